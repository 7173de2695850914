import PyProof.Rows.All
import PySem.Challenge.RW_matesline_k54_words_of_times
import HandS.ForMost
import HandS.ForExc
import HandS.TupAny
import HandS.TupMul
import HandS.More
import HandS.Style
import HandS.IsInst
import HandS.Deep
import KE.DataEq
import HandS.RaiseMore
import KE.KIndexOf
import PyProof.SeqIndex
import PyProof.EqAt
import HandS.Iter
import HandS.Zip
import HandS.Rev
import KE.GoesMore
import KE.GoesEnum
import HandS.Comp
import HandS.WordsExc
import HandS.ExcOwn
import PyProof.ReprReads
import PyProof.ReprRoads
import HandS.Ends
import HandS.Dict
import KE.KRevSl
import HandS.AnyAll
import HandS.Text
import PyProof.ReprLen
import PyProof.Rows.ReprOcc
import HandS.StrMore
import HandS.Strs
import HandS.SetFor
import HandS.Steps
import HandS.ExcInit
import HandS.ExcField
import HandS.ExcIs
import HandS.Small
import KE.KIsAll
import HandS.Star
import HandS.SortInts
import HandS.TupSets
import HandS.Conv
import HandS.SortRule
import PyProof.ListStr
import HandS.Flow
import HandS.Lambda
import HandS.EndTab
import KE.KNest
import HandS.EndOwn
import HandS.HotCalls
import HandS.Defaults
import HandS.CallSlots
import HandS.Replace
set_option Elab.async false
set_option linter.all false
set_option maxRecDepth 100000
set_option maxHeartbeats 4000000
namespace VL
open PySem PySem.Spec PyProof.Rows L2

/-! ## tuples whose very object is known (so that it has no dict of its own) -/
abbrev tob (its : List Value) : Obj := { cls := .type "tuple", data := .seq its.toArray }
/-- a held tuple -/
abbrev HO.th (o : Obj) (xs : List V) : HO := .frz o (.tup xs)
theorem th_ok {P : Program} {w : World} {H : Hp} {h : Heap} {a : Addr} {xs : List V} {its : List Value} (hz : xs.length ≤ sizeLine) (r : Vals xs its) (e : h.get? a = some (tob its)) : ObjOk P w H h a (HO.th (tob its) xs) :=
  ⟨e, hz, its, r, ⟨_, e, rfl, _, rfl⟩⟩
theorem SqT.th {K : PySem.W.Frag} {H : Hp} {a : Addr} {o : Obj} {xs : List V} (h : H a = some (HO.th o xs)) : SqT K H a xs := .inl (.inr ⟨o, h⟩)
/-- what is wanted of a new tuple -/
abbrev NewT (H : Hp) (xs : List V) (Q : VK) : Prop := ∀ (p : Addr) (o : Obj), H p = none → o.dict = none → Q (.ref p) (upd H p (HO.th o xs))
section
variable {X : Cx} {e : Expr} {es : List Expr} {te : TE} {t : TA} {pos : Pos} {pins : List (Addr × Obj)} {σ : L2.St} {H : Hp} {s : Shared} {Q : VK}
theorem new_th {xs : List V} {its : List Value} {tk : Nat} (I : Inv X pins σ H s) (hz : xs.length ≤ sizeLine) (r : Vals xs its) (q : NewT H xs Q) : EP X pins σ Q (.ref s.heap.objs.size) { s with heap := s.heap.push (tob its), toks := tk } :=
  ⟨.ref s.heap.objs.size, upd H s.heap.objs.size (HO.th (tob its) xs), I.laid (t' := tk) (fun _ _ e => Heap.get?_push_of_some _ e) (Nat.le_refl _) (th_ok hz r (Heap.get?_push_size _ rfl)), rfl, q _ _ (I.hok.fresh (Nat.le_refl _)) rfl⟩
def tTupF (t : TA) : TE := fun σ H Q => t σ H fun xs H1 => xs.length ≤ sizeLine ∧ NewT H1 xs Q
theorem pe_tupF {x1} (h : PA X es t) : PE X (.Tuple es x1 pos) (tTupF t) := by
  refine ⟨fun pins s σ H Q I hq => wpAny_Tuple_spliced (thn (h.run pos pins s σ H _ I hq) ?_)⟩
  rintro us s1 ⟨xs, H1, I1, r, z, q⟩
  exact ⟨Nat.le_trans (Nat.le_of_eq r.length.symm) z, new_th (tk := s1.toks) I1 z r q⟩
def rCatF (K : PySem.W.Frag) : R2 := fun x y H Q => ∃ a c xs ys, x = .ref a ∧ y = .ref c ∧ SqT K H a xs ∧ SqT K H c ys ∧ xs.length + ys.length ≤ sizeLine ∧
  (xs = [] → Q (.ref c) H) ∧ (xs ≠ [] → ys = [] → Q (.ref a) H) ∧ (xs ≠ [] → ys ≠ [] → NewT H (xs ++ ys) Q)
theorem op_catF : OpR X (binaryOp .Add) (rCatF X.K) := by
  intro pins s σ H x y v u Q I rx ry ⟨a, c, xs, ys, ex, ey, ha, hc, hz, q0, q1, q2⟩
  subst ex ey
  obtain rfl : v = .ref a := rx
  obtain rfl : u = .ref c := ry
  obtain ⟨i1, r1, p1, _⟩ := I.tuple ha
  obtain ⟨i2, r2, p2, _⟩ := I.tuple hc
  cases xs with
  | nil =>
    cases r1
    exact cat_tup0 p1 p2 ⟨.ref c, H, I, rfl, q0 rfl⟩
  | cons x0 xr =>
    have hx : x0 :: xr ≠ [] := by simp
    refine HT.cat_tup p1 p2 (fun z => hx (r1.nil_iff.mp z)) (fun z => ⟨.ref a, H, I, rfl, q1 hx (r2.nil_iff.mp z)⟩) (fun z => ?_) (by have h1 := r1.length; have h2 := r2.length; omega)
    exact new_th (tk := s.toks) I (by rw [List.length_append]; exact hz) (r1.append r2) (q2 hx fun w => z (r2.nil_iff.mpr w))
def rSlF (K : PySem.W.Frag) : V → Option Int → Option Int → Hp → VK → Prop := fun x lo hi H Q => ∃ a xs, x = .ref a ∧ SqT K H a xs ∧
  (HT.sIx xs.length 0 lo = 0 ∧ HT.sIx xs.length xs.length hi = xs.length → Q (.ref a) H) ∧ (¬ (HT.sIx xs.length 0 lo = 0 ∧ HT.sIx xs.length xs.length hi = xs.length) → NewT H (cutV xs lo hi) Q)
theorem sl_tupF : SlR X (rSlF X.K) := by
  intro pins s σ H x v vl vu lo hi sl Q I rx hs pl pu ⟨a, xs, ex, hx, q1, q2⟩
  subst ex
  obtain rfl : v = .ref a := rx
  obtain ⟨its, r, ht, hz⟩ := I.tuple hx
  have hn : its.toArray.size = xs.length := by rw [List.size_toArray, r.length]
  refine ⟨"tuple", _, PyProof.Rows.slot_tuple_getitem.lookup, ht.typeIs, ?_⟩
  by_cases hw : HT.sIx xs.length 0 lo = 0 ∧ HT.sIx xs.length xs.length hi = xs.length
  · exact getItem_tuple_whole ht hs pl pu (by rw [hn]; exact hw) ⟨.ref a, H, I, rfl, q1 hw⟩
  · refine HT.getItem_tuple_cut ht hs pl pu (by rw [hn]; exact hw) ?_ (by rw [hn]; exact hz)
    rw [hn]
    exact new_th (tk := s.toks) I (Nat.le_trans (cutV_length xs lo hi) hz) ((r.drop _).take _) (q2 hw)
def rTupOf (K : PySem.W.Frag) : List V → Hp → VK → Prop := fun xs H Q => ∃ p ys, xs = [.ref p] ∧ ((SqL K H p ys ∧ NewT H ys Q) ∨ (SqT K H p ys ∧ Q (.ref p) H))
theorem call_tupF : CallR X (.type "tuple") (rTupOf X.K) := by
  intro pins s σ H xs us Q I r ⟨p, ys, ex, h⟩
  subst ex
  obtain ⟨u, rfl, ru⟩ := vals1 r
  obtain rfl : u = .ref p := ru
  rcases h with ⟨hq, q⟩ | ⟨hq, q⟩
  · obtain ⟨its, r', pl, hz⟩ := I.list hq
    refine call_tuple_list pl.isList (fun h' kp => ?_) (by rw [List.size_toArray, ← r'.length]; exact hz)
    exact new_th (s := { s with heap := h' }) (tk := s.toks) (I.kept (t' := s.toks) kp) hz r' q
  · obtain ⟨its, r', pl, hz⟩ := I.tuple hq
    exact call_tuple_same pl ⟨.ref p, H, I, rfl, q⟩
def rRepF (K : PySem.W.Frag) : R2 := fun x y H Q => ∃ l k xs, x = .ref l ∧ y = .int k ∧ SqT K H l xs ∧ xs ≠ [] ∧ 2 ≤ k ∧ k ≤ 1000 ∧ xs.length ≤ 1000 ∧ NewT H (List.replicate k.toNat xs).flatten Q
theorem op_repF : OpR X (binaryOp .Mult) (rRepF X.K) := by
  intro pins s σ H x y v u Q I rx ry ⟨l, k, xs, ex, ey, hT, hne, h2, h3, hz, q⟩
  subst ex ey
  obtain rfl : v = .ref l := rx
  obtain ⟨t, rfl⟩ := ry
  obtain ⟨its, r, ⟨o, ho, hc, n, hd⟩, hs⟩ := I.tuple hT
  obtain ⟨oc, dd, dt, slt⟩ := o
  obtain rfl : oc = .type "tuple" := hc
  obtain rfl : dt = .seq its.toArray n := hd
  have hle : its.length = xs.length := r.length.symm
  have hi : its.toArray.isEmpty = false := by
    cases xs with
    | nil => exact absurd rfl hne
    | cons _ _ => cases r; rfl
  have hsz : its.toArray.size = xs.length := by rw [List.size_toArray, hle]
  have hm : ((its.toArray.size : Nat) : Int) * k ≤ 1000000 := by
    rw [hsz]
    exact Int.le_trans (Int.mul_le_mul_of_nonneg_right (show ((xs.length : Nat) : Int) ≤ 1000 by omega) (by omega)) (by omega)
  have fl : (List.replicate k.toNat xs).flatten.length ≤ sizeLine := by
    rw [PyProof.Rows.lm_len_rep_flat, sizeLine_eq]
    exact Nat.le_trans (Nat.mul_le_mul (show k.toNat ≤ 1000 by omega) hz) (by decide)
  have fl2 : (List.replicate k.toNat its).flatten.length ≤ sizeLine := by
    rw [PyProof.Rows.lm_len_rep_flat, hle, ← PyProof.Rows.lm_len_rep_flat]
    exact fl
  have c1 : (its.toArray.isEmpty || k == 1) = false := by simp only [hi, Bool.false_or]; exact beq_eq_false_iff_ne.mpr (by omega)
  have c2 : (decide (k ≤ 0) || its.toArray.isEmpty) = false := by simp only [hi, Bool.or_false]; exact decide_eq_false (by omega)
  have c4 : Builtin.Tuple.tupleTooMany (((its.toArray.size : Nat) : Int) * k) = false := by
    unfold Builtin.Tuple.tupleTooMany
    simp only [sizeLine_eq]
    exact decide_eq_false (by omega)
  have road := tuple_mulW l its.toArray n dd slt k t (by simp; omega) c1 c2 (by omega) c4 (by rw [size_rep, List.size_toArray]; exact fl2)
  refine wpAny_binaryOp_repeat_ref (U := "int") (T := "tuple") (by decide) ⟨_, ho, rfl⟩ (typeIs_int · k t) noFill_tuple_mul F.fills_int_mul F.slot_int_rmul repeat_tuple F.slot_int_index.lookup ?_
  refine call_meets F.slot_int_rmul (typeIs_int s k t) F.entry_int_rmul (F.args_int_rmul_2 _ _) (int_rmul_tuple k t l its.toArray n dd slt) ⟨ho, rfl, ⟨_, ho, rfl⟩, ?_⟩
  refine call_meets F.slot_tuple_mul ⟨_, ho, rfl⟩ F.entry_tuple_mul (F.args_tuple_mul_2 _ _) road ⟨ho, ?_⟩
  rw [size_rep]
  exact new_th (tk := s.toks) I fl (r.rep k.toNat) q
end
end VL
set_option Elab.async false
set_option linter.all false
set_option maxRecDepth 100000
set_option maxHeartbeats 4000000
namespace VL
open PySem PySem.Spec PyProof.Rows L2

/-- any other thing, by what is true of it at its address -/
structure Abs where
  R : (Addr → Prop) → Hp → Addr → Prop
  at_ : ∀ {Z H a}, R Z H a → ∃ o, H a = some o
  noext : ∀ {Z H a}, R Z H a → ∀ P : Heap → Prop, H a ≠ some (.ext P)
  mono : ∀ {Z Z' : Addr → Prop} {H H' : Hp} {a : Addr}, (∀ a, Z' a → Z a ∨ H a = none) → (∀ a o, H a = some o → ¬ Z a → H' a = some o) → (∀ o, H a = some o → H' a = some o) → R Z H a → R Z' H' a

/-- what a value is worth: plain data, an own object of plain data that stands still, a value as it is -/
inductive D where
  | py (p : PyData)
  | obj (a : Addr) (n : Str) (fs : List (Str × PyData))
  | raw (v : V)
  | err (a : Addr) (d : Option Addr) (n : Str) (fs : List (Str × PyData))
  | abs (A : Abs)

@[simp] def kD : Key → PyData
  | .inl i => .int i
  | .inr x => .str x

mutual
/-- v is worth d in H; nothing that it reaches lies in Z -/
inductive Rq (Z : Addr → Prop) (H : Hp) : V → PyData → Prop
  | non : Rq Z H .non .none
  | bl (k : Bool) : Rq Z H (.bl k) (.bool k)
  | int (i : Int) : Rq Z H (.int i) (.int i)
  | str (x : Str) : Rq Z H (.str x) (.str x)
  | lst {a : Addr} {xs : List V} {ds : List PyData} : H a = some (.lst xs) → ¬ Z a → Rqs Z H xs ds → Rq Z H (.ref a) (.list ds)
  | tup {a : Addr} {o : Obj} {xs : List V} {ds : List PyData} : H a = some (HO.th o xs) → o.dict = none → ¬ Z a → Rqs Z H xs ds → Rq Z H (.ref a) (.tuple ds)
  | dct {a : Addr} {kvs : List (Key × V)} {ds : List (PyData × PyData)} : H a = some (.dK kvs) → ¬ Z a → Rqk Z H kvs ds → Rq Z H (.ref a) (.dict ds)
inductive Rqs (Z : Addr → Prop) (H : Hp) : List V → List PyData → Prop
  | nil : Rqs Z H [] []
  | cons {v : V} {d : PyData} {vs : List V} {ds : List PyData} : Rq Z H v d → Rqs Z H vs ds → Rqs Z H (v :: vs) (d :: ds)
inductive Rqk (Z : Addr → Prop) (H : Hp) : List (Key × V) → List (PyData × PyData) → Prop
  | nil : Rqk Z H [] []
  | cons {k : Key} {v : V} {d : PyData} {vs : List (Key × V)} {ds : List (PyData × PyData)} : Rq Z H v d → Rqk Z H vs ds → Rqk Z H ((k, v) :: vs) ((kD k, d) :: ds)
end

section
variable {Z Z' : Addr → Prop} {H H' : Hp}
mutual
theorem Rq.mono (hz : ∀ a, Z' a → Z a ∨ H a = none) (hs : ∀ a o, H a = some o → ¬ Z a → H' a = some o) : ∀ {v : V} {d : PyData}, Rq Z H v d → Rq Z' H' v d
  | _, _, .non => .non
  | _, _, .bl k => .bl k
  | _, _, .int i => .int i
  | _, _, .str x => .str x
  | _, _, .lst e n r => .lst (hs _ _ e n) (fun z => (hz _ z).elim n fun q => by rw [e] at q; cases q) (Rqs.mono hz hs r)
  | _, _, .tup e d n r => .tup (hs _ _ e n) d (fun z => (hz _ z).elim n fun q => by rw [e] at q; cases q) (Rqs.mono hz hs r)
  | _, _, .dct e n r => .dct (hs _ _ e n) (fun z => (hz _ z).elim n fun q => by rw [e] at q; cases q) (Rqk.mono hz hs r)
theorem Rqs.mono (hz : ∀ a, Z' a → Z a ∨ H a = none) (hs : ∀ a o, H a = some o → ¬ Z a → H' a = some o) : ∀ {v : List V} {d : List PyData}, Rqs Z H v d → Rqs Z' H' v d
  | _, _, .nil => .nil
  | _, _, .cons r t => .cons (Rq.mono hz hs r) (Rqs.mono hz hs t)
theorem Rqk.mono (hz : ∀ a, Z' a → Z a ∨ H a = none) (hs : ∀ a o, H a = some o → ¬ Z a → H' a = some o) : ∀ {v : List (Key × V)} {d : List (PyData × PyData)}, Rqk Z H v d → Rqk Z' H' v d
  | _, _, .nil => .nil
  | _, _, .cons r t => .cons (Rq.mono hz hs r) (Rqk.mono hz hs t)
end
theorem Rqs.length : ∀ {v : List V} {d : List PyData}, Rqs Z H v d → v.length = d.length
  | _, _, .nil => rfl
  | _, _, .cons _ t => congrArg (· + 1) (Rqs.length t)
theorem Rqk.length : ∀ {v : List (Key × V)} {d : List (PyData × PyData)}, Rqk Z H v d → v.length = d.length
  | _, _, .nil => rfl
  | _, _, .cons _ t => congrArg (· + 1) (Rqk.length t)
theorem Rqs.append : ∀ {v w : List V} {d e : List PyData}, Rqs Z H v d → Rqs Z H w e → Rqs Z H (v ++ w) (d ++ e)
  | _, _, _, _, .nil, s => s
  | _, _, _, _, .cons r t, s => .cons r (Rqs.append t s)
theorem Rqs.get : ∀ {v : List V} {d : List PyData} {i : Nat} {x : PyData}, Rqs Z H v d → d[i]? = some x → ∃ u, v[i]? = some u ∧ Rq Z H u x
  | _, _, _, _, .nil, e => by simp at e
  | _, _, 0, _, .cons r _, e => by simp at e; subst e; exact ⟨_, rfl, r⟩
  | _, _, i + 1, x, .cons _ t, e => by
    obtain ⟨u, h1, h2⟩ := Rqs.get (i := i) (x := x) t (by simpa using e)
    exact ⟨u, by simpa using h1, h2⟩
theorem Rqs.get' : ∀ {v : List V} {d : List PyData} {i : Nat} {u : V}, Rqs Z H v d → v[i]? = some u → ∃ x, d[i]? = some x ∧ Rq Z H u x
  | _, _, _, _, .nil, e => by simp at e
  | _, _, 0, _, .cons r _, e => by simp at e; subst e; exact ⟨_, rfl, r⟩
  | _, _, i + 1, x, .cons _ t, e => by
    obtain ⟨u, h1, h2⟩ := Rqs.get' (i := i) t (by simpa using e)
    exact ⟨u, by simpa using h1, h2⟩
theorem Rqs.take : ∀ {v : List V} {d : List PyData} (n : Nat), Rqs Z H v d → Rqs Z H (v.take n) (d.take n)
  | _, _, 0, _ => .nil
  | _, _, _ + 1, .nil => .nil
  | _, _, n + 1, .cons r t => .cons r (Rqs.take n t)
theorem Rqs.drop : ∀ {v : List V} {d : List PyData} (n : Nat), Rqs Z H v d → Rqs Z H (v.drop n) (d.drop n)
  | _, _, 0, r => r
  | _, _, _ + 1, .nil => .nil
  | _, _, n + 1, .cons _ t => Rqs.drop n t
theorem Rqs.set {u : V} {x : PyData} (r : Rq Z H u x) : ∀ {v : List V} {d : List PyData} (n : Nat), Rqs Z H v d → Rqs Z H (v.set n u) (d.set n x)
  | _, _, _, .nil => .nil
  | _, _, 0, .cons _ t => .cons r t
  | _, _, n + 1, .cons q t => .cons q (Rqs.set r n t)
theorem Rqs.eraseIdx : ∀ {v : List V} {d : List PyData} (n : Nat), Rqs Z H v d → Rqs Z H (v.eraseIdx n) (d.eraseIdx n)
  | _, _, _, .nil => .nil
  | _, _, 0, .cons _ t => t
  | _, _, n + 1, .cons q t => .cons q (Rqs.eraseIdx n t)
theorem Rqs.reverse {v : List V} {d : List PyData} (r : Rqs Z H v d) : Rqs Z H v.reverse d.reverse := by
  have go : ∀ {v w : List V} {d e : List PyData}, Rqs Z H v d → Rqs Z H w e → Rqs Z H (v.reverse ++ w) (d.reverse ++ e) := by
    intro v
    induction v with
    | nil => intro w d e r s; cases r; exact s
    | cons x v ih =>
      intro w d e r s
      cases r with
      | cons r t =>
        rw [List.reverse_cons, List.reverse_cons, List.append_assoc, List.append_assoc]
        exact ih t (.cons r s)
  have := go r (Rqs.nil (Z := Z) (H := H))
  simpa using this
theorem Rqs.rep {v : List V} {d : List PyData} (r : Rqs Z H v d) : ∀ n : Nat, Rqs Z H (List.replicate n v).flatten (List.replicate n d).flatten
  | 0 => .nil
  | n + 1 => by rw [List.replicate_succ, List.replicate_succ, List.flatten_cons, List.flatten_cons]; exact r.append (Rqs.rep r n)
/-- ints are ints -/
theorem Rqs.ints : ∀ {v : List V} {ns : List Int}, Rqs Z H v (ns.map PyData.int) → v = ns.map V.int
  | _, [], .nil => rfl
  | _, n :: ns, .cons r t => by
    cases r
    rw [List.map_cons, Rqs.ints t]
theorem Rqs.strs : ∀ {v : List V} {ns : List Str}, Rqs Z H v (ns.map PyData.str) → v = ns.map V.str
  | _, [], .nil => rfl
  | _, n :: ns, .cons r t => by
    cases r
    rw [List.map_cons, Rqs.strs t]
theorem Rqs.bools : ∀ {v : List V} {ns : List Bool}, Rqs Z H v (ns.map PyData.bool) → v = ns.map V.bl
  | _, [], .nil => rfl
  | _, n :: ns, .cons r t => by
    cases r
    rw [List.map_cons, Rqs.bools t]
theorem Rqs.of_ints : ∀ (ns : List Int), Rqs Z H (ns.map V.int) (ns.map PyData.int)
  | [] => .nil
  | n :: ns => .cons (.int n) (Rqs.of_ints ns)
theorem Rqs.of_strs : ∀ (ns : List Str), Rqs Z H (ns.map V.str) (ns.map PyData.str)
  | [] => .nil
  | n :: ns => .cons (.str n) (Rqs.of_strs ns)
end

/-- what surrounds the code: the classes' addresses, what others may change (B) while G stands -/
structure Bg where
  cls : Str → Addr
  B : Addr → Prop
  G : Hp → Prop
  loc : ∀ H H' : Hp, (∀ a, B a → H' a = H a) → (∀ a P, H a = some (.ext P) → H' a = some (.ext P)) → G H → G H'
  dom : ∀ (H : Hp) (a : Addr), G H → B a → H a ≠ none

/-- an error: its class's name, its fields -/
structure Er where
  n : Str
  fs : List (Str × PyData)

/-- fields -/
inductive Rqf (Z : Addr → Prop) (H : Hp) : List (Str × V) → List (Str × PyData) → Prop
  | nil : Rqf Z H [] []
  | cons {k : Str} {v : V} {d : PyData} {vs : List (Str × V)} {ds : List (Str × PyData)} : Rq Z H v d → Rqf Z H vs ds → Rqf Z H ((k, v) :: vs) ((k, d) :: ds)

section
variable {Z Z' : Addr → Prop} {H H' : Hp}
theorem Rqf.mono (hz : ∀ a, Z' a → Z a ∨ H a = none) (hs : ∀ a o, H a = some o → ¬ Z a → H' a = some o) : ∀ {v : List (Str × V)} {d : List (Str × PyData)}, Rqf Z H v d → Rqf Z' H' v d
  | _, _, .nil => .nil
  | _, _, .cons r t => .cons (r.mono hz hs) (Rqf.mono hz hs t)
theorem Rqf.look : ∀ {v : List (Str × V)} {d : List (Str × PyData)} {f : Str} {x : PyData}, Rqf Z H v d → d.lookup f = some x → ∃ u, v.lookup f = some u ∧ Rq Z H u x
  | _, _, _, _, .nil, e => by simp at e
  | _, _, f, x, .cons (k := k) r t, e => by
    rw [List.lookup_cons] at e
    rw [List.lookup_cons]
    cases h : f == k with
    | true => rw [h] at e; cases e; exact ⟨_, rfl, r⟩
    | false => rw [h] at e; exact Rqf.look t e
end

/-- v is worth d -/
def Rp (b : Bg) (Z : Addr → Prop) (H : Hp) (v : V) : D → Prop
  | .py p => Rq Z H v p
  | .obj a n fs => ∃ dx xs, v = .ref a ∧ H a = some (.ins (b.cls n) dx xs) ∧ ¬ Z a ∧ Rqf Z H xs fs
  | .abs A => ∃ a, v = .ref a ∧ ¬ Z a ∧ A.R Z H a
  | .raw u => v = u
  | .err a d _ fs => v = .ref a ∧ ((d = none ∧ fs = []) ∨ ∃ dd xs, d = some dd ∧ H dd = some (.xd xs) ∧ ¬ Z dd ∧ Rqf Z H xs fs)
inductive Rps (b : Bg) (Z : Addr → Prop) (H : Hp) : List V → List D → Prop
  | nil : Rps b Z H [] []
  | cons {v : V} {d : D} {vs : List V} {ds : List D} : Rp b Z H v d → Rps b Z H vs ds → Rps b Z H (v :: vs) (d :: ds)

section
variable {b : Bg} {Z Z' : Addr → Prop} {H H' : Hp}
theorem Rp.mono (hz : ∀ a, Z' a → Z a ∨ H a = none) (hs : ∀ a o, H a = some o → ¬ Z a → H' a = some o) {v : V} {d : D} (r : Rp b Z H v d) : Rp b Z' H' v d := by
  cases d with
  | py p => exact Rq.mono hz hs r
  | abs A =>
    obtain ⟨a, e, nz, q⟩ := r
    obtain ⟨o, h⟩ := A.at_ q
    exact ⟨a, e, fun z => (hz _ z).elim nz (fun q => by rw [h] at q; cases q), A.mono hz hs (fun o h => hs _ _ h nz) q⟩
  | obj a n fs =>
    obtain ⟨dx, xs, e, h, nz, q⟩ := r
    exact ⟨dx, xs, e, hs _ _ h nz, fun z => (hz _ z).elim nz (fun q => by rw [h] at q; cases q), q.mono hz hs⟩
  | raw u => exact r
  | err a d n fs =>
    obtain ⟨e, r⟩ := r
    refine ⟨e, r.imp id ?_⟩
    rintro ⟨dd, xs, e1, h, nz, q⟩
    exact ⟨dd, xs, e1, hs _ _ h nz, fun z => (hz _ z).elim nz (fun q => by rw [h] at q; cases q), q.mono hz hs⟩
theorem Rps.mono (hz : ∀ a, Z' a → Z a ∨ H a = none) (hs : ∀ a o, H a = some o → ¬ Z a → H' a = some o) : ∀ {v : List V} {d : List D}, Rps b Z H v d → Rps b Z' H' v d
  | _, _, .nil => .nil
  | _, _, .cons r t => .cons (r.mono hz hs) (Rps.mono hz hs t)
theorem Rps.length : ∀ {v : List V} {d : List D}, Rps b Z H v d → v.length = d.length
  | _, _, .nil => rfl
  | _, _, .cons _ t => congrArg (· + 1) (Rps.length t)
theorem Rps.get : ∀ {v : List V} {d : List D} {i : Nat} {x : D}, Rps b Z H v d → d[i]? = some x → ∃ u, v[i]? = some u ∧ Rp b Z H u x
  | _, _, _, _, .nil, e => by simp at e
  | _, _, 0, _, .cons r _, e => by simp at e; subst e; exact ⟨_, rfl, r⟩
  | _, _, i + 1, x, .cons _ t, e => by
    obtain ⟨u, h1, h2⟩ := Rps.get (i := i) (x := x) t (by simpa using e)
    exact ⟨u, by simpa using h1, h2⟩
theorem Rps.pys : ∀ {v : List V} {d : List PyData}, Rps b Z H v (d.map D.py) → Rqs Z H v d
  | _, [], .nil => .nil
  | _, x :: d, .cons r t => .cons r (Rps.pys t)
theorem Rqs.to : ∀ {v : List V} {d : List PyData}, Rqs Z H v d → Rps b Z H v (d.map D.py)
  | _, _, .nil => .nil
  | _, _, .cons r t => .cons r (Rqs.to t)
end

/-- an owned object: it lies in Z itself, its items do not -/
def Ow (b : Bg) (Z : Addr → Prop) (H : Hp) (a : Addr) : D → Prop
  | .py (.list ds) => ∃ xs, H a = some (.lst xs) ∧ Rqs Z H xs ds
  | .py (.dict ds) => ∃ kvs, H a = some (.dK kvs) ∧ Rqk Z H kvs ds
  | .obj c n fs => a = c ∧ ∃ dx xs, H a = some (.ins (b.cls n) dx xs) ∧ Rqf Z H xs fs
  | .abs A => A.R Z H a
  | _ => False
section
variable {b : Bg} {Z Z' : Addr → Prop} {H H' : Hp} {a : Addr} {d : D}
theorem Ow.noext (h : Ow b Z H a d) (P : Heap → Prop) : H a ≠ some (.ext P) := fun z => by
  cases d with
  | py p =>
    cases p with
    | list ds => obtain ⟨xs, e, _⟩ := h; rw [e] at z; cases z
    | dict ds => obtain ⟨xs, e, _⟩ := h; rw [e] at z; cases z
    | _ => exact False.elim h
  | obj c n fs => obtain ⟨_, _, _, e, _⟩ := h; rw [e] at z; cases z
  | abs A => exact A.noext h P z
  | _ => exact False.elim h
theorem Ow.at (h : Ow b Z H a d) : ∃ o, H a = some o := by
  cases d with
  | py p =>
    cases p with
    | list ds => obtain ⟨xs, e, _⟩ := h; exact ⟨_, e⟩
    | dict ds => obtain ⟨xs, e, _⟩ := h; exact ⟨_, e⟩
    | _ => exact False.elim h
  | obj c n fs => obtain ⟨_, dx, xs, e, _⟩ := h; exact ⟨_, e⟩
  | abs A => exact A.at_ h
  | raw u => exact False.elim h
  | err _ _ _ _ => exact False.elim h
theorem Ow.mono (hz : ∀ a, Z' a → Z a ∨ H a = none) (hs : ∀ a o, H a = some o → ¬ Z a → H' a = some o) (ha : ∀ o, H a = some o → H' a = some o) (h : Ow b Z H a d) : Ow b Z' H' a d := by
  cases d with
  | py p =>
    cases p with
    | list ds => obtain ⟨xs, e, r⟩ := h; exact ⟨xs, ha _ e, r.mono hz hs⟩
    | dict ds => obtain ⟨xs, e, r⟩ := h; exact ⟨xs, ha _ e, r.mono hz hs⟩
    | _ => exact False.elim h
  | obj c n fs => obtain ⟨ec, dx, xs, e, r⟩ := h; exact ⟨ec, dx, xs, ha _ e, r.mono hz hs⟩
  | abs A => exact A.mono hz hs ha h
  | raw u => exact False.elim h
  | err _ _ _ _ => exact False.elim h
/-- given away -/
theorem Ow.rp (hz : ∀ a, Z' a → Z a) (na : ¬ Z' a) (h : Ow b Z H a d) : Rp b Z' H (.ref a) d := by
  have hm : ∀ a, Z' a → Z a ∨ H a = none := fun a z => .inl (hz a z)
  cases d with
  | py p =>
    cases p with
    | list ds => obtain ⟨xs, e, r⟩ := h; exact Rq.lst e na (r.mono hm fun _ _ e _ => e)
    | dict ds => obtain ⟨xs, e, r⟩ := h; exact Rq.dct e na (r.mono hm fun _ _ e _ => e)
    | _ => exact False.elim h
  | obj c n fs => obtain ⟨ec, dx, xs, e, r⟩ := h; subst ec; exact ⟨dx, xs, rfl, e, na, r.mono hm fun _ _ e _ => e⟩
  | abs A => exact ⟨a, rfl, na, A.mono hm (fun _ _ e _ => e) (fun _ e => e) h⟩
  | raw u => exact False.elim h
  | err _ _ _ _ => exact False.elim h
end
end VL
set_option Elab.async false
set_option linter.all false
set_option maxRecDepth 100000
set_option maxHeartbeats 4000000
namespace VL
open PySem PySem.Spec PyProof.Rows L2

/-- a name's slot: nothing known, a shared value, an object that nobody else holds -/
inductive Slot where
  | un | shr (d : D) | own (d : D)
abbrev VEnv := List Slot

/-- all that stood and may not be changed by others stands -/
def Ex (b : Bg) (H H' : Hp) : Prop := ∀ a o, H a = some o → ¬ b.B a → H' a = some o
section
variable {b : Bg} {H H1 H2 : Hp}
theorem Ex.refl : Ex b H H := fun _ _ e _ => e
theorem Ex.trans (x : Ex b H H1) (y : Ex b H1 H2) : Ex b H H2 := fun a o e n => y a o (x a o e n) n
theorem Ex.new {a : Addr} {o : HO} (h : H a = none) : Ex b H (upd H a o) := fun c u e _ => by
  rw [upd_ne (ne_of_none e h)]
  exact e
theorem Bg.new {a : Addr} {o : HO} (g : b.G H) (h : H a = none) : b.G (upd H a o) :=
  b.loc H _ (fun c hc => upd_ne fun e => b.dom H c g hc (by rw [e]; exact h)) (fun c P e => by rw [upd_ne (ne_of_none e h)]; exact e) g
end

/-- the names' values and what they own. Zo: what the callers own, and B; Z: all that is owned now -/
structure VOk (b : Bg) (Zo Z : Addr → Prop) (σ : L2.St) (H : Hp) (ρ : VEnv) : Prop where
  g : b.G H
  zb : ∀ a, b.B a → Zo a
  zo : ∀ a, Zo a → Z a
  dom : ∀ a, Z a → H a ≠ none
  zi : ∀ a, Z a → Zo a ∨ ∃ (i : Nat) (d : D), ρ[i]? = some (.own d) ∧ σ[i]? = some (some (.ref a))
  own : ∀ (i : Nat) (d : D), ρ[i]? = some (.own d) → ∃ a, σ[i]? = some (some (.ref a)) ∧ Z a ∧ ¬ Zo a ∧ Ow b Z H a d
  inj : ∀ (i j : Nat) (d e : D) (a : Addr), ρ[i]? = some (.own d) → ρ[j]? = some (.own e) → σ[i]? = some (some (.ref a)) → σ[j]? = some (some (.ref a)) → i = j
  shr : ∀ (i : Nat) (d : D), ρ[i]? = some (.shr d) → ∃ v, σ[i]? = some (some v) ∧ Rp b Z H v d
  len : ρ.length = σ.length

section
variable {b : Bg} {Zo Z : Addr → Prop} {σ : L2.St} {H H' : Hp} {ρ : VEnv}
theorem VOk.nb (v : VOk b Zo Z σ H ρ) {a : Addr} (h : ¬ Z a) : ¬ b.B a := fun z => h (v.zo _ (v.zb _ z))
theorem VOk.fresh (v : VOk b Zo Z σ H ρ) {a : Addr} (h : H a = none) : ¬ Z a := fun z => v.dom a z h
theorem VOk.keep (v : VOk b Zo Z σ H ρ) (x : Ex b H H') : ∀ a o, H a = some o → ¬ Z a → H' a = some o := fun a o e n => x a o e (v.nb n)
theorem VOk.rp (v : VOk b Zo Z σ H ρ) (x : Ex b H H') {u : V} {d : D} (r : Rp b Z H u d) : Rp b Z H' u d := r.mono (fun a z => .inl z) (v.keep x)
theorem VOk.rps (v : VOk b Zo Z σ H ρ) (x : Ex b H H') {u : List V} {d : List D} (r : Rps b Z H u d) : Rps b Z H' u d := r.mono (fun a z => .inl z) (v.keep x)
theorem VOk.rq (v : VOk b Zo Z σ H ρ) (x : Ex b H H') {u : V} {d : PyData} (r : Rq Z H u d) : Rq Z H' u d := r.mono (fun a z => .inl z) (v.keep x)
theorem VOk.rqs (v : VOk b Zo Z σ H ρ) (x : Ex b H H') {u : List V} {d : List PyData} (r : Rqs Z H u d) : Rqs Z H' u d := r.mono (fun a z => .inl z) (v.keep x)
/-- behind an expression -/
theorem VOk.ex (v : VOk b Zo Z σ H ρ) (x : Ex b H H') (g : b.G H') : VOk b Zo Z σ H' ρ where
  g := g
  zb := v.zb
  zo := v.zo
  dom := fun a z => by
    by_cases hb : b.B a
    · exact b.dom H' a g hb
    · cases e : H a with
      | none => exact absurd e (v.dom a z)
      | some o => rw [x a o e hb]; simp
  zi := v.zi
  own := fun i d e => by
    obtain ⟨a, h1, h2, h3, h4⟩ := v.own i d e
    exact ⟨a, h1, h2, h3, h4.mono (fun _ z => .inl z) (v.keep x) fun o q => x a o q fun z => h3 (v.zb a z)⟩
  inj := v.inj
  shr := fun i d e => by
    obtain ⟨u, h1, h2⟩ := v.shr i d e
    exact ⟨u, h1, v.rp x h2⟩
  len := v.len
theorem VOk.new (v : VOk b Zo Z σ H ρ) {a : Addr} {o : HO} (h : H a = none) : VOk b Zo Z σ (upd H a o) ρ := v.ex (Ex.new h) (Bg.new v.g h)
/-- an object of an outer one, new and held apart -/
theorem VOk.more (v : VOk b Zo Z σ H ρ) {a : Addr} (ha : H a ≠ none) (hz : ¬ Z a)
    (hs : ∀ (u : V) (d : D), Rp b Z H u d → Rp b (fun c => Z c ∨ c = a) H u d) (hw : ∀ (c : Addr) (d : D), Ow b Z H c d → Ow b (fun c => Z c ∨ c = a) H c d) :
    VOk b (fun c => Zo c ∨ c = a) (fun c => Z c ∨ c = a) σ H ρ where
  g := v.g
  zb := fun c z => .inl (v.zb c z)
  zo := fun c z => z.imp (v.zo c) id
  dom := fun c z => z.elim (v.dom c) fun e => by rw [e]; exact ha
  zi := fun c z => z.elim (fun z => (v.zi c z).imp .inl id) fun e => .inl (.inr e)
  own := fun i d e => by
    obtain ⟨c, h1, h2, h3, h4⟩ := v.own i d e
    exact ⟨c, h1, .inl h2, fun z => z.elim h3 fun q => hz (q ▸ h2), hw c d h4⟩
  inj := v.inj
  shr := fun i d e => by
    obtain ⟨u, h1, h2⟩ := v.shr i d e
    exact ⟨u, h1, hs u d h2⟩
  len := v.len
end

/-! ### readings -/
abbrev VT := VEnv → (D → Prop) → (Er → Prop) → Prop
abbrev VB := VEnv → (Bool → Prop) → (Er → Prop) → Prop
abbrev VA := VEnv → (List D → Prop) → (Er → Prop) → Prop

/-- an error as it lies: its class, its own dict -/
def ErRp (b : Bg) (Z : Addr → Prop) (H : Hp) (c : Value) (d : Option Addr) (er : Er) : Prop :=
  c = .ref (b.cls er.n) ∧ ((d = none ∧ er.fs = []) ∨ ∃ a xs, d = some a ∧ H a = some (.xd xs) ∧ ¬ Z a ∧ Rqf Z H xs er.fs)

/-- a borrowed value: it may be an owned object itself -/
def Rb (b : Bg) (Z : Addr → Prop) (H : Hp) (v : V) (d : D) : Prop := Rp b Z H v d ∨ ∃ a, v = .ref a ∧ ¬ b.B a ∧ Z a ∧ Ow b Z H a d
/-- a new object that nobody holds -/
def Rn (b : Bg) (Z : Addr → Prop) (H0 H : Hp) (v : V) (d : D) : Prop := ∃ a, v = .ref a ∧ H0 a = none ∧ Ow b (fun c => Z c ∨ c = a) H a d

/-- how a reading over values is one over the heap -/
def LE (b : Bg) (W : WX) (R : (Addr → Prop) → Hp → Hp → V → D → Prop) (t : VT) : TE := fun σ H Q => ∃ Zo Z ρ Qd Ed, VOk b Zo Z σ H ρ ∧ t ρ Qd Ed ∧
  (∀ v H' d, Ex b H H' → b.G H' → R Z H H' v d → Qd d → Q v H') ∧ ∀ c x H' er, Ex b H H' → b.G H' → ErRp b Z H' c x er → Ed er → W c x σ H'
def LB (b : Bg) (W : WX) (t : VB) : TT := fun σ H Q => ∃ Zo Z ρ Qd Ed, VOk b Zo Z σ H ρ ∧ t ρ Qd Ed ∧
  (∀ k H', Ex b H H' → b.G H' → Qd k → Q k H') ∧ ∀ c x H' er, Ex b H H' → b.G H' → ErRp b Z H' c x er → Ed er → W c x σ H'
def LA (b : Bg) (W : WX) (t : VA) : TA := fun σ H Q => ∃ Zo Z ρ Qd Ed, VOk b Zo Z σ H ρ ∧ t ρ Qd Ed ∧
  (∀ v H' d, Ex b H H' → b.G H' → Rps b Z H' v d → Qd d → Q v H') ∧ ∀ c x H' er, Ex b H H' → b.G H' → ErRp b Z H' c x er → Ed er → W c x σ H'

/-- an expression: its value; borrowed; new -/
def VE (X : Cx) (b : Bg) (W : WX) (e : Expr) (t : VT) : Prop := PE X e (LE b W (fun Z _ H v d => Rp b Z H v d) t)
def VX (X : Cx) (b : Bg) (W : WX) (e : Expr) (t : VT) : Prop := PE X e (LE b W (fun Z _ H v d => Rb b Z H v d) t)
def VN (X : Cx) (b : Bg) (W : WX) (e : Expr) (t : VT) : Prop := PE X e (LE b W (fun Z H0 H v d => Rn b Z H0 H v d) t)
def VTe (X : Cx) (b : Bg) (W : WX) (e : Expr) (t : VB) : Prop := PT X e (LB b W t)
def VAs (X : Cx) (b : Bg) (W : WX) (es : List Expr) (t : VA) : Prop := PA X es (LA b W t)

theorem pe_mono {X : Cx} {e : Expr} {t t' : TE} (h : PE X e t) (m : ∀ σ H Q, t' σ H Q → t σ H Q) : PE X e t' :=
  ⟨fun pins s σ H Q I q => h.run pins s σ H Q I (m σ H Q q)⟩
theorem pt_mono {X : Cx} {e : Expr} {t t' : TT} (h : PT X e t) (m : ∀ σ H Q, t' σ H Q → t σ H Q) : PT X e t' :=
  ⟨fun pins s σ H Q I q => h.run pins s σ H Q I (m σ H Q q)⟩
theorem pa_mono {X : Cx} {e : List Expr} {t t' : TA} (h : PA X e t) (m : ∀ σ H Q, t' σ H Q → t σ H Q) : PA X e t' :=
  ⟨fun pos pins s σ H Q I q => h.run pos pins s σ H Q I (m σ H Q q)⟩
theorem ps_mono {X : Cx} {e : Stmt} {t t' : TS} (h : PS X e t) (m : ∀ D σ H, t' D σ H → t D σ H) : PS X e t' :=
  ⟨fun pins s σ H D I q => h.run pins s σ H D I (m D σ H q)⟩
theorem pss_mono {X : Cx} {e : List Stmt} {t t' : TS} (h : PSs X e t) (m : ∀ D σ H, t' D σ H → t D σ H) : PSs X e t' :=
  ⟨fun pins s σ H D I q => h.run pins s σ H D I (m D σ H q)⟩

section
variable {X : Cx} {b : Bg} {W : WX} {e e1 e2 : Expr} {es : List Expr} {t t1 t2 : VT} {pos : Pos}
theorem VE.toX (h : VE X b W e t) : VX X b W e t := pe_mono h fun σ H Q ⟨Zo, Z, ρ, Qd, Ed, v, q, l, m⟩ => ⟨Zo, Z, ρ, Qd, Ed, v, q, fun u H' d x g r => l u H' d x g (.inl r), m⟩
theorem VN.toE (h : VN X b W e t) : VE X b W e t := pe_mono h fun σ H Q ⟨Zo, Z, ρ, Qd, Ed, v, q, l, m⟩ => ⟨Zo, Z, ρ, Qd, Ed, v, q, fun u H' d x g ⟨a, e, n, o⟩ => by
  subst e
  exact l _ H' d x g (o.rp (fun _ z => .inl z) (v.fresh n)), m⟩
theorem VN.toX (h : VN X b W e t) : VX X b W e t := VE.toX (VN.toE h)

/-! ### names, constants -/
@[simp] def vVar (i : Nat) : VT := fun ρ Q _ => ∃ d, ρ[i]? = some (.shr d) ∧ Q d
@[simp] def vBor (i : Nat) : VT := fun ρ Q _ => ∃ d, (ρ[i]? = some (.shr d) ∨ ρ[i]? = some (.own d)) ∧ Q d
@[simp] def vC (d : D) : VT := fun _ Q _ => Q d
theorem ve_var {i : Nat} (h : PE X e (tVar i)) : VE X b W e (vVar i) := pe_mono h fun σ H Q ⟨Zo, Z, ρ, Qd, Ed, v, ⟨d, e, q⟩, l, _⟩ => by
  obtain ⟨u, h1, h2⟩ := v.shr i d e
  exact ⟨u, h1, l u H d Ex.refl v.g h2 q⟩
theorem vx_var {i : Nat} (h : PE X e (tVar i)) : VX X b W e (vBor i) := pe_mono h fun σ H Q ⟨Zo, Z, ρ, Qd, Ed, v, ⟨d, e, q⟩, l, _⟩ => by
  rcases e with e | e
  · obtain ⟨u, h1, h2⟩ := v.shr i d e
    exact ⟨u, h1, l u H d Ex.refl v.g (.inl h2) q⟩
  · obtain ⟨a, h1, h2, h3, h4⟩ := v.own i d e
    exact ⟨.ref a, h1, l _ H d Ex.refl v.g (.inr ⟨a, rfl, fun z => h3 (v.zb a z), h2, h4⟩) q⟩
theorem ve_const {v : V} {p : PyData} (h : PE X e (tC v)) (r : ∀ (Z : Addr → Prop) (H : Hp), Rq Z H v p) : VE X b W e (vC (.py p)) :=
  pe_mono h fun σ H Q ⟨Zo, Z, ρ, Qd, Ed, v, q, l, _⟩ => l _ H (.py p) Ex.refl v.g (r Z H) q
theorem ve_int {i : Int} {j} : VE X b W (.Constant (.int i) j pos) (vC (.py (.int i))) := ve_const pe_int fun _ _ => .int i
theorem ve_bl {k : Bool} {j} : VE X b W (.Constant (.bool k) j pos) (vC (.py (.bool k))) := ve_const pe_bl fun _ _ => .bl k
theorem ve_non {j} : VE X b W (.Constant .none j pos) (vC (.py .none)) := ve_const pe_non fun _ _ => .non
theorem ve_str {x : Str} {j} : VE X b W (.Constant (.str x) j pos) (vC (.py (.str x))) := ve_const pe_str fun _ _ => .str x
theorem ve_raw {v : V} (h : PE X e (tC v)) : VE X b W e (vC (.raw v)) :=
  pe_mono h fun σ H Q ⟨Zo, Z, ρ, Qd, Ed, u, q, l, _⟩ => l v H (.raw v) Ex.refl u.g rfl q

/-! ### argument lists, displays -/
@[simp] def vNil : VA := fun _ Q _ => Q []
@[simp] def vCons (t : VT) (u : VA) : VA := fun ρ Q E => t ρ (fun d => u ρ (fun ds => Q (d :: ds)) E) E
theorem va_nil : VAs X b W [] vNil := pa_mono pa_nil fun σ H Q ⟨Zo, Z, ρ, Qd, Ed, v, q, l, _⟩ => l [] H [] Ex.refl v.g .nil q
theorem ErRp.mono {Z : Addr → Prop} {H H' : Hp} {c : Value} {d : Option Addr} {er : Er} (hs : ∀ a o, H a = some o → ¬ Z a → H' a = some o) (r : ErRp b Z H c d er) : ErRp b Z H' c d er := by
  obtain ⟨h, r⟩ := r
  refine ⟨h, r.imp id ?_⟩
  rintro ⟨a, xs, h1, h2, h3, h4⟩
  exact ⟨a, xs, h1, hs _ _ h2 h3, h3, h4.mono (fun _ z => .inl z) hs⟩
theorem va_cons {u : VA} (h : VE X b W e t) (k : VAs X b W es u) (hs : starEach (e :: es) X.env = (false, eval e X.env) :: starEach es X.env := by rfl) : VAs X b W (e :: es) (vCons t u) :=
  pa_mono (pa_cons h k hs) fun σ H Q ⟨Zo, Z, ρ, Qd, Ed, v, q, l, m⟩ => ⟨Zo, Z, ρ, _, Ed, v, q, fun x H1 d x1 g1 r1 q1 =>
    ⟨Zo, Z, ρ, _, Ed, v.ex x1 g1, q1, fun xs H2 ds x2 g2 r2 q2 => l (x :: xs) H2 (d :: ds) (x1.trans x2) g2 (.cons ((v.ex x1 g1).rp x2 r1) r2) q2, fun c y H2 er x2 g2 r2 q2 => m c y H2 er (x1.trans x2) g2 r2 q2⟩, m⟩

@[simp] def pys : List D → Option (List PyData)
  | [] => some []
  | .py p :: ds => (pys ds).map (p :: ·)
  | _ :: _ => none
theorem pys_of : ∀ {ds : List D} {ps : List PyData}, pys ds = some ps → ds = ps.map D.py
  | [], ps, h => by cases h; rfl
  | .py p :: ds, ps, h => by
    cases e : pys ds with
    | none => rw [pys, e] at h; cases h
    | some qs => rw [pys, e] at h; cases h; rw [List.map_cons, ← pys_of e]
  | .obj _ _ _ :: _, _, h => by cases h
  | .abs _ :: _, _, h => by cases h
  | .raw _ :: _, _, h => by cases h
  | .err _ _ _ _ :: _, _, h => by cases h
theorem Rqs.up' {Z : Addr → Prop} {H : Hp} {a : Addr} {o : HO} {v : List V} {ds : List PyData} (r : Rqs Z H v ds) (h : H a = none) : Rqs (fun c => Z c ∨ c = a) (upd H a o) v ds :=
  r.mono (fun c z => z.imp id fun e => by rw [e]; exact h) fun c u e _ => by
    rw [upd_ne (ne_of_none e h)]
    exact e
/-- a tuple, a list of written items -/
@[simp] def vTup (u : VA) : VT := fun ρ Q E => u ρ (fun ds => ∃ ps, pys ds = some ps ∧ ps.length ≤ sizeLine ∧ Q (.py (.tuple ps))) E
@[simp] def vLst (u : VA) : VT := fun ρ Q E => u ρ (fun ds => ∃ ps, pys ds = some ps ∧ ps.length ≤ sizeLine ∧ Q (.py (.list ps))) E
theorem Rps.pyL {Z : Addr → Prop} {H : Hp} {v : List V} {ds : List D} {ps : List PyData} (r : Rps b Z H v ds) (e : VL.pys ds = some ps) : Rqs Z H v ps := by
  rw [pys_of e] at r
  exact r.pys
theorem up {Z : Addr → Prop} {H : Hp} {a : Addr} {o : HO} (h : H a = none) : ∀ c u, H c = some u → ¬ Z c → upd H a o c = some u := fun c u e _ => by
  rw [upd_ne (ne_of_none e h)]
  exact e
theorem Rqs.up {Z : Addr → Prop} {H : Hp} {a : Addr} {o : HO} {v : List V} {ds : List PyData} (r : Rqs Z H v ds) (h : H a = none) : Rqs Z (upd H a o) v ds := r.mono (fun _ z => .inl z) (VL.up h)
theorem ve_tup {u : VA} {x1} (k : VAs X b W es u) : VE X b W (.Tuple es x1 pos) (vTup u) :=
  pe_mono (pe_tupF k) fun σ H Q ⟨Zo, Z, ρ, Qd, Ed, v, q, l, m⟩ => ⟨Zo, Z, ρ, _, Ed, v, q, fun xs H1 ds x1 g1 r1 ⟨ps, e, hl, q1⟩ => by
    have r2 := r1.pyL e
    refine ⟨by rw [r2.length]; exact hl, fun p o hp ho => l _ _ _ (x1.trans (Ex.new hp)) (Bg.new g1 hp) ?_ q1⟩
    exact Rq.tup upd_same ho ((v.ex x1 g1).fresh hp) (r2.up hp), m⟩
theorem vn_lst {u : VA} (k : VAs X b W es u) : VN X b W (.List es pos) (vLst u) :=
  pe_mono (pe_lst k) fun σ H Q ⟨Zo, Z, ρ, Qd, Ed, v, q, l, m⟩ => ⟨Zo, Z, ρ, _, Ed, v, q, fun xs H1 ds x1 g1 r1 ⟨ps, e, hl, q1⟩ => (by
    have r2 := r1.pyL e
    refine ⟨by rw [r2.length]; exact hl, fun p hp => l _ _ (.py (.list ps)) (x1.trans (Ex.new hp)) (Bg.new g1 hp) ⟨p, rfl, ?_, xs, upd_same, r2.up' hp⟩ q1⟩
    cases e : H p with
    | none => rfl
    | some o =>
      by_cases hb : b.B p
      · exact absurd hp (b.dom _ _ g1 hb)
      · rw [x1 p o e hb] at hp; cases hp), m⟩
end
end VL
set_option Elab.async false
set_option linter.all false
set_option maxRecDepth 100000
set_option maxHeartbeats 4000000
namespace VL
open PySem PySem.Spec PyProof.Rows L2

/-! ### what a borrowed value is -/
section
variable {b : Bg} {Z : Addr → Prop} {H : Hp} {v : V}
theorem Rb.list {ds : List PyData} (r : Rb b Z H v (.py (.list ds))) : ∃ a xs, v = .ref a ∧ H a = some (.lst xs) ∧ Rqs Z H xs ds := by
  rcases r with r | ⟨a, e, _, _, xs, h, q⟩
  · cases r with
    | lst e n q => exact ⟨_, _, rfl, e, q⟩
  · exact ⟨a, xs, e, h, q⟩
theorem Rb.dict {ds : List (PyData × PyData)} (r : Rb b Z H v (.py (.dict ds))) : ∃ a xs, v = .ref a ∧ H a = some (.dK xs) ∧ Rqk Z H xs ds := by
  rcases r with r | ⟨a, e, _, _, xs, h, q⟩
  · cases r with
    | dct e n q => exact ⟨_, _, rfl, e, q⟩
  · exact ⟨a, xs, e, h, q⟩
theorem Rb.tuple {ds : List PyData} (r : Rb b Z H v (.py (.tuple ds))) : ∃ a o xs, v = .ref a ∧ H a = some (HO.th o xs) ∧ o.dict = none ∧ ¬ Z a ∧ Rqs Z H xs ds := by
  rcases r with r | ⟨a, e, _, _, q⟩
  · cases r with
    | tup e d n q => exact ⟨_, _, _, rfl, e, d, n, q⟩
  · exact q.elim
theorem Rb.int {i : Int} (r : Rb b Z H v (.py (.int i))) : v = .int i := by
  rcases r with r | ⟨a, e, _, _, q⟩
  · cases r; rfl
  · exact q.elim
theorem Rb.str {i : Str} (r : Rb b Z H v (.py (.str i))) : v = .str i := by
  rcases r with r | ⟨a, e, _, _, q⟩
  · cases r; rfl
  · exact q.elim
theorem Rb.bool {i : Bool} (r : Rb b Z H v (.py (.bool i))) : v = .bl i := by
  rcases r with r | ⟨a, e, _, _, q⟩
  · cases r; rfl
  · exact q.elim
theorem Rb.none (r : Rb b Z H v (.py .none)) : v = .non := by
  rcases r with r | ⟨a, e, _, _, q⟩
  · cases r; rfl
  · exact q.elim
theorem Rb.obj {a : Addr} {n : Str} {fs : List (Str × PyData)} (r : Rb b Z H v (.obj a n fs)) : ∃ dx xs, v = .ref a ∧ H a = some (.ins (b.cls n) dx xs) ∧ Rqf Z H xs fs := by
  rcases r with ⟨dx, xs, e, h, _, q⟩ | ⟨a, e, _, _, rfl, dx, xs, h, q⟩
  · exact ⟨dx, xs, e, h, q⟩
  · exact ⟨dx, xs, e, h, q⟩
theorem Rb.ex {H' : Hp} (hk : ∀ a o, H a = some o → ¬ Z a → H' a = some o) (x : Ex b H H') {d : D} (r : Rb b Z H v d) : Rb b Z H' v d := by
  rcases r with r | ⟨a, e, nb, z, q⟩
  · exact .inl (r.mono (fun _ z => .inl z) hk)
  · exact .inr ⟨a, e, nb, z, q.mono (fun _ z => .inl z) hk fun o h => x a o h nb⟩
end

/-- the ground of a rule by values: G stands, B lies in Z, Z is there -/
structure Gd (b : Bg) (Z : Addr → Prop) (H : Hp) : Prop where
  g : b.G H
  zb : ∀ a, b.B a → Z a
  dom : ∀ a, Z a → H a ≠ none
theorem VOk.gd {b : Bg} {Zo Z : Addr → Prop} {σ : L2.St} {H : Hp} {ρ : VEnv} (v : VOk b Zo Z σ H ρ) : Gd b Z H := ⟨v.g, fun a z => v.zo a (v.zb a z), v.dom⟩
section
variable {b : Bg} {Z : Addr → Prop} {H : Hp}
theorem Gd.fresh (g : Gd b Z H) {a : Addr} (h : H a = none) : ¬ Z a := fun z => g.dom a z h
theorem Gd.new (g : Gd b Z H) {a : Addr} {o : HO} (h : H a = none) : b.G (upd H a o) := Bg.new g.g h
end

/-- a rule by the heap's values serves a reading g over values; R: what comes of it -/
def OpD (b : Bg) (R : (Addr → Prop) → Hp → Hp → V → D → Prop) (r : R2) (g : D → D → (D → Prop) → Prop) : Prop :=
  ∀ (Z : Addr → Prop) (H : Hp) (x y : V) (dx dy : D) (Q : VK) (Qd : D → Prop), Gd b Z H → Rb b Z H x dx → Rb b Z H y dy → g dx dy Qd →
    (∀ v H' d, Ex b H H' → b.G H' → R Z H H' v d → Qd d → Q v H') → r x y H Q
abbrev RE (b : Bg) : (Addr → Prop) → Hp → Hp → V → D → Prop := fun Z _ H v d => Rp b Z H v d
abbrev RN (b : Bg) : (Addr → Prop) → Hp → Hp → V → D → Prop := fun Z H0 H v d => Rn b Z H0 H v d

@[simp] def vBin (g : D → D → (D → Prop) → Prop) (ta tb : VT) : VT := fun ρ Q E => ta ρ (fun x => tb ρ (fun y => g x y Q) E) E
@[simp] def vUn (g : D → (D → Prop) → Prop) (ta : VT) : VT := fun ρ Q E => ta ρ (fun x => g x Q) E

theorem Rn.of {b : Bg} {Z : Addr → Prop} {H H1 H2 : Hp} {v : V} {d : D} (g : b.G H1) (x : Ex b H H1) (r : Rn b Z H1 H2 v d) : Rn b Z H H2 v d := by
  obtain ⟨a, e, h, o⟩ := r
  refine ⟨a, e, ?_, o⟩
  cases q : H a with
  | none => rfl
  | some u =>
    by_cases hb : b.B a
    · exact absurd h (b.dom _ _ g hb)
    · rw [x a u q hb] at h; cases h

section
variable {X : Cx} {b : Bg} {W : WX} {e e1 e2 e3 : Expr} {es : List Expr} {t t1 t2 t3 : VT} {pos : Pos} {r : R2} {g : D → D → (D → Prop) → Prop}
/-- the core of all rules of two values -/
theorem core2 {R : (Addr → Prop) → Hp → Hp → V → D → Prop} (hR : ∀ Z H H1 H2 v d, b.G H1 → Ex b H H1 → R Z H1 H2 v d → R Z H H2 v d) (hd : OpD b R r g) :
    ∀ σ H Q, LE b W R (vBin g t1 t2) σ H Q → tOp r (LE b W (fun Z _ H v d => Rb b Z H v d) t1) (LE b W (fun Z _ H v d => Rb b Z H v d) t2) σ H Q :=
  fun σ H Q ⟨Zo, Z, ρ, Qd, Ed, v, q, l, m⟩ => ⟨Zo, Z, ρ, _, Ed, v, q, fun x H1 d x1 g1 r1 q1 =>
    ⟨Zo, Z, ρ, _, Ed, v.ex x1 g1, q1, fun y H2 d2 x2 g2 r2 q2 =>
      hd Z H2 x y d d2 Q Qd ((v.ex x1 g1).ex x2 g2).gd (r1.ex ((v.ex x1 g1).keep x2) x2) r2 q2 fun u H3 d3 x3 g3 r3 q3 => l u H3 d3 ((x1.trans x2).trans x3) g3 (hR _ _ _ _ _ _ g2 (x1.trans x2) r3) q3,
      fun c z H2 er x2 g2 r2 q2 => m c z H2 er (x1.trans x2) g2 r2 q2⟩, m⟩
theorem hRE : ∀ (Z : Addr → Prop) (H H1 H2 : Hp) (v : V) (d : D), b.G H1 → Ex b H H1 → RE b Z H1 H2 v d → RE b Z H H2 v d := fun _ _ _ _ _ _ _ _ r => r
theorem hRN : ∀ (Z : Addr → Prop) (H H1 H2 : Hp) (v : V) (d : D), b.G H1 → Ex b H H1 → RN b Z H1 H2 v d → RN b Z H H2 v d := fun _ _ _ _ _ _ g x r => r.of g x
theorem ve_op {op : Operator} (ho : OpR X (binaryOp op) r) (hd : OpD b (RE b) r g) (h1 : VX X b W e1 t1) (h2 : VX X b W e2 t2) : VE X b W (.BinOp e1 op e2 pos) (vBin g t1 t2) :=
  pe_mono (pe_op ho h1 h2) (core2 hRE hd)
theorem vn_op {op : Operator} (ho : OpR X (binaryOp op) r) (hd : OpD b (RN b) r g) (h1 : VX X b W e1 t1) (h2 : VX X b W e2 t2) : VN X b W (.BinOp e1 op e2 pos) (vBin g t1 t2) :=
  pe_mono (pe_op ho h1 h2) (core2 hRN hd)
theorem ve_cmp {op : CmpOp} (ho : OpR X (compareOp op) r) (hd : OpD b (RE b) r g) (h1 : VX X b W e1 t1) (h2 : VX X b W e2 t2) (hm : behindInMarks op e2 = false) : VE X b W (.Compare e1 [op] [e2] pos) (vBin g t1 t2) :=
  pe_mono (pe_cmpR ho h1 h2 hm) (core2 hRE hd)
/-- a value that is a bool, as a test -/
@[simp] def vTst (t : VT) : VB := fun ρ Q E => t ρ (fun d => ∃ k, d = .py (.bool k) ∧ Q k) E
theorem core2t (hd : OpD b (RE b) r g) : ∀ σ H Q, LB b W (vTst (vBin g t1 t2)) σ H Q → tTest (tOp r (LE b W (fun Z _ H v d => Rb b Z H v d) t1) (LE b W (fun Z _ H v d => Rb b Z H v d) t2)) σ H Q :=
  fun σ H Q ⟨Zo, Z, ρ, Qd, Ed, v, q, l, m⟩ => core2 (t1 := t1) (t2 := t2) hRE hd σ H _ ⟨Zo, Z, ρ, _, Ed, v, q, fun x H1 d x1 g1 r1 ⟨k, e, q1⟩ => ⟨k, by
    subst e
    exact Rb.bool (b := b) (.inl r1), l k H1 x1 g1 q1⟩, m⟩
theorem vt_cmp {op : CmpOp} (ho : OpR X (compareOp op) r) (hd : OpD b (RE b) r g) (h1 : VX X b W e1 t1) (h2 : VX X b W e2 t2) (hm : behindInMarks op e2 = false) : VTe X b W (.Compare e1 [op] [e2] pos) (vTst (vBin g t1 t2)) :=
  pt_mono (pt_cmpR ho h1 h2 hm) (core2t hd)
/-- any expression whose value is a bool, as a test -/
theorem vt_val (h : VX X b W e t) (he : ∀ whole, isTrue e X.env whole = (do let v ← whole; standAt e.pos; holding [v] (truthy v)) := by intro _; rfl) : VTe X b W e (vTst t) :=
  pt_mono (pt_val h he) fun σ H Q ⟨Zo, Z, ρ, Qd, Ed, v, q, l, m⟩ => ⟨Zo, Z, ρ, _, Ed, v, q, fun x H1 d x1 g1 r1 ⟨k, e, q1⟩ => ⟨k, by
    subst e
    exact r1.bool, l k H1 x1 g1 q1⟩, m⟩

/-! ### arithmetic -/
@[simp] def gAdd : D → D → (D → Prop) → Prop
  | .py (.int i), .py (.int j), Q => Q (.py (.int (i + j)))
  | .py (.str x), .py (.str y), Q => x.length + y.length ≤ sizeLine ∧ Q (.py (.str (x ++ y)))
  | .py (.list x), .py (.list y), Q => x.length + y.length ≤ sizeLine ∧ Q (.py (.list (x ++ y)))
  | .py (.tuple x), .py (.tuple y), Q => x.length + y.length ≤ sizeLine ∧ Q (.py (.tuple (x ++ y)))
  | _, _, _ => False
@[simp] def gCat : D → D → (D → Prop) → Prop
  | .py (.list x), .py (.list y), Q => x.length + y.length ≤ sizeLine ∧ Q (.py (.list (x ++ y)))
  | _, _, _ => False
def rStrAdd : R2 := fun x y H Q => ∃ i j, x = .str i ∧ y = .str j ∧ i.length + j.length ≤ sizeLine ∧ Q (.str (i ++ j)) H
theorem rn_catL : OpD b (RN b) rCat gCat := by
  intro Z H x y dx dy Q Qd gd rx ry h k
  match dx, dy, h, rx, ry with
  | .py (.list xs), .py (.list ys), ⟨hl, h⟩, rx, ry =>
    obtain ⟨a, us, rfl, ha, qa⟩ := rx.list
    obtain ⟨c, ws, rfl, hc, qc⟩ := ry.list
    refine ⟨a, c, us, ws, rfl, rfl, ha, hc, by rw [qa.length, qc.length]; exact hl, fun p hp => k _ _ (.py (.list (xs ++ ys))) (Ex.new hp) (gd.new hp) ⟨p, rfl, hp, _, upd_same, (qa.append qc).up' hp⟩ h⟩
theorem OpD.toE {r : R2} {g : D → D → (D → Prop) → Prop} (h : OpD b (RN b) r g) : OpD b (RE b) r g := fun Z H x y dx dy Q Qd gd rx ry q k =>
  h Z H x y dx dy Q Qd gd rx ry q fun v H' d x1 g1 ⟨a, e, n, o⟩ q1 => k v H' d x1 g1 (by subst e; exact o.rp (fun _ z => .inl z) (gd.fresh n)) q1
theorem rd_add : OpD b (RE b) (fun x y H Q => rI0 (fun i j => .int (i + j)) x y H Q ∨ (fun x y H Q => (∃ i j, x = .str i ∧ y = .str j ∧ i.length + j.length ≤ sizeLine ∧ Q (.str (i ++ j)) H) ∨ (fun x y H Q => rCat x y H Q ∨ rCatF X.K x y H Q) x y H Q) x y H Q) gAdd := by
  intro Z H x y dx dy Q Qd gd rx ry h k
  match dx, dy, h, rx, ry with
  | .py (.int i), .py (.int j), h, rx, ry =>
    rw [rx.int, ry.int]
    exact .inl ⟨i, j, rfl, rfl, k _ H (.py (.int (i + j))) Ex.refl gd.g (.int _) h⟩
  | .py (.str i), .py (.str j), ⟨hl, h⟩, rx, ry =>
    rw [rx.str, ry.str]
    exact .inr (.inl ⟨i, j, rfl, rfl, hl, k _ H (.py (.str (i ++ j))) Ex.refl gd.g (.str _) h⟩)
  | .py (.list xs), .py (.list ys), h, rx, ry =>
    exact .inr (.inr (.inl (OpD.toE rn_catL Z H x y (.py (.list xs)) (.py (.list ys)) Q Qd gd rx ry h k)))
  | .py (.tuple xs), .py (.tuple ys), ⟨hl, h⟩, rx, ry =>
    obtain ⟨a, oa, us, rfl, ha, da, na, qa⟩ := rx.tuple
    obtain ⟨c, oc, ws, rfl, hc, dc, nc, qc⟩ := ry.tuple
    refine .inr (.inr (.inr ⟨a, c, us, ws, rfl, rfl, SqT.th ha, SqT.th hc, by rw [qa.length, qc.length]; exact hl, fun e => ?_, fun _ e => ?_, fun _ _ p o hp ho => ?_⟩))
    · subst e
      cases qa
      exact k _ H (.py (.tuple ys)) Ex.refl gd.g (.tup hc dc nc qc) h
    · subst e
      cases qc
      rw [List.append_nil] at h
      exact k _ H (.py (.tuple xs)) Ex.refl gd.g (.tup ha da na qa) h
    · exact k _ _ (.py (.tuple (xs ++ ys))) (Ex.new hp) (gd.new hp) (.tup upd_same ho (gd.fresh hp) ((qa.append qc).up hp)) h
theorem ve_add (h1 : VX X b W e1 t1) (h2 : VX X b W e2 t2) : VE X b W (.BinOp e1 .Add e2 pos) (vBin gAdd t1 t2) := ve_op (OpR.or op_add (OpR.or op_add_str (OpR.or op_cat op_catF))) rd_add h1 h2
theorem vn_add (h1 : VX X b W e1 t1) (h2 : VX X b W e2 t2) : VN X b W (.BinOp e1 .Add e2 pos) (vBin gCat t1 t2) := vn_op op_cat rn_catL h1 h2

/-- ints in, under C; a plain value out -/
@[simp] def gI (C : Int → Int → Prop) (f : Int → Int → PyData) : D → D → (D → Prop) → Prop
  | .py (.int i), .py (.int j), Q => C i j ∧ Q (.py (f i j))
  | _, _, _ => False
theorem rd_I {C : Int → Int → Prop} {f : Int → Int → V} {f' : Int → Int → PyData} (hf : ∀ (Z : Addr → Prop) (H : Hp) i j, Rq Z H (f i j) (f' i j)) : OpD b (RE b) (rI C f) (gI C f') := by
  intro Z H x y dx dy Q Qd gd rx ry h k
  match dx, dy, h, rx, ry with
  | .py (.int i), .py (.int j), ⟨hc, h⟩, rx, ry =>
    rw [rx.int, ry.int]
    exact ⟨i, j, rfl, rfl, hc, k _ H (.py (f' i j)) Ex.refl gd.g (hf Z H i j) h⟩
/-- .. without a condition -/
@[simp] def gI0 (f : Int → Int → PyData) : D → D → (D → Prop) → Prop
  | .py (.int i), .py (.int j), Q => Q (.py (f i j))
  | _, _, _ => False
theorem rd_I0 {f : Int → Int → V} {f' : Int → Int → PyData} (hf : ∀ (Z : Addr → Prop) (H : Hp) i j, Rq Z H (f i j) (f' i j)) : OpD b (RE b) (rI0 f) (gI0 f') := by
  intro Z H x y dx dy Q Qd gd rx ry h k
  match dx, dy, h, rx, ry with
  | .py (.int i), .py (.int j), h, rx, ry =>
    rw [rx.int, ry.int]
    exact ⟨i, j, rfl, rfl, k _ H (.py (f' i j)) Ex.refl gd.g (hf Z H i j) h⟩
abbrev gSub := gI0 fun i j => .int (i - j)
abbrev gFdiv := gI CDivN fun i j => .int (i.fdiv j)
abbrev gMod := gI (fun _ j => 0 < j) fun i j => .int (i % j)
abbrev gPow := gI CPow fun i j => .int (i ^ j.toNat)
abbrev gLt := gI0 fun i j => .bool (decide (i < j))
abbrev gLe := gI0 fun i j => .bool (decide (i ≤ j))
abbrev gGt := gI0 fun i j => .bool (decide (j < i))
abbrev gGe := gI0 fun i j => .bool (decide (j ≤ i))
theorem ve_sub (h1 : VX X b W e1 t1) (h2 : VX X b W e2 t2) : VE X b W (.BinOp e1 .Sub e2 pos) (vBin gSub t1 t2) := ve_op op_sub (rd_I0 fun _ _ _ _ => .int _) h1 h2
theorem ve_fdiv (h1 : VX X b W e1 t1) (h2 : VX X b W e2 t2) : VE X b W (.BinOp e1 .FloorDiv e2 pos) (vBin gFdiv t1 t2) := ve_op op_fdivN (rd_I fun _ _ _ _ => .int _) h1 h2
theorem ve_mod (h1 : VX X b W e1 t1) (h2 : VX X b W e2 t2) : VE X b W (.BinOp e1 .Mod e2 pos) (vBin gMod t1 t2) := ve_op op_mod (rd_I fun _ _ _ _ => .int _) h1 h2
theorem ve_pow (h1 : VX X b W e1 t1) (h2 : VX X b W e2 t2) : VE X b W (.BinOp e1 .Pow e2 pos) (vBin gPow t1 t2) := ve_op op_pow (rd_I fun _ _ _ _ => .int _) h1 h2
theorem ve_lt (h1 : VX X b W e1 t1) (h2 : VX X b W e2 t2) : VE X b W (.Compare e1 [.Lt] [e2] pos) (vBin gLt t1 t2) := ve_cmp op_lt (rd_I0 fun _ _ _ _ => .bl _) h1 h2 (nobehind _ (by decide) (by decide))
theorem ve_le (h1 : VX X b W e1 t1) (h2 : VX X b W e2 t2) : VE X b W (.Compare e1 [.LtE] [e2] pos) (vBin gLe t1 t2) := ve_cmp op_le (rd_I0 fun _ _ _ _ => .bl _) h1 h2 (nobehind _ (by decide) (by decide))
theorem ve_gt (h1 : VX X b W e1 t1) (h2 : VX X b W e2 t2) : VE X b W (.Compare e1 [.Gt] [e2] pos) (vBin gGt t1 t2) := ve_cmp op_gt (rd_I0 fun _ _ _ _ => .bl _) h1 h2 (nobehind _ (by decide) (by decide))
theorem ve_ge (h1 : VX X b W e1 t1) (h2 : VX X b W e2 t2) : VE X b W (.Compare e1 [.GtE] [e2] pos) (vBin gGe t1 t2) := ve_cmp op_ge (rd_I0 fun _ _ _ _ => .bl _) h1 h2 (nobehind _ (by decide) (by decide))
theorem vt_lt (h1 : VX X b W e1 t1) (h2 : VX X b W e2 t2) : VTe X b W (.Compare e1 [.Lt] [e2] pos) (vTst (vBin gLt t1 t2)) := vt_cmp op_lt (rd_I0 fun _ _ _ _ => .bl _) h1 h2 (nobehind _ (by decide) (by decide))
theorem vt_le (h1 : VX X b W e1 t1) (h2 : VX X b W e2 t2) : VTe X b W (.Compare e1 [.LtE] [e2] pos) (vTst (vBin gLe t1 t2)) := vt_cmp op_le (rd_I0 fun _ _ _ _ => .bl _) h1 h2 (nobehind _ (by decide) (by decide))
theorem vt_gt (h1 : VX X b W e1 t1) (h2 : VX X b W e2 t2) : VTe X b W (.Compare e1 [.Gt] [e2] pos) (vTst (vBin gGt t1 t2)) := vt_cmp op_gt (rd_I0 fun _ _ _ _ => .bl _) h1 h2 (nobehind _ (by decide) (by decide))
theorem vt_ge (h1 : VX X b W e1 t1) (h2 : VX X b W e2 t2) : VTe X b W (.Compare e1 [.GtE] [e2] pos) (vTst (vBin gGe t1 t2)) := vt_cmp op_ge (rd_I0 fun _ _ _ _ => .bl _) h1 h2 (nobehind _ (by decide) (by decide))
end
end VL
set_option Elab.async false
set_option linter.all false
set_option maxRecDepth 100000
set_option maxHeartbeats 4000000
namespace VL
open PySem PySem.Spec PyProof.Rows L2

abbrev nz : Addr → Prop := fun _ => False

section
variable {X : Cx} {pins : List (Addr × Obj)} {σ : L2.St} {H : Hp} {s : Shared} {Z : Addr → Prop}
theorem keys_read {h : Heap} {P : Program} {w : World} : ∀ {es : List DictEntry} {kvs : List (Key × V)} {vs : List (Key × Value)}, KV kvs vs → Pairs (mixKind P w) es vs →
    ReadsAll h (es.map (·.key)) (kvs.map fun p => kD p.1) [] ∧ Vals (kvs.map (·.2)) (es.map (·.val))
  | _, _, _, .nil, .nil => ⟨.nil, .nil⟩
  | _, _, _, .cons (a := p) (b := q) r t, .cons (e := e) hk hv hp => by
    obtain ⟨i1, i2⟩ := keys_read (h := h) t hp
    obtain ⟨p1, p2⟩ := p
    obtain ⟨q1, q2⟩ := q
    obtain ⟨e1, e2⟩ := r
    have e1' : p1 = q1 := e1
    subst e1'
    refine ⟨?_, .cons (show L2.RelV p2 e.val by rw [hv]; exact e2) i2⟩
    have hk' : keyIs p1 e.key = true := hk
    rcases keyIs_shape hk' with ⟨i, u, a1, a2⟩ | ⟨x, u, a1, a2⟩
    · subst a1
      rw [List.map_cons, List.map_cons, a2]
      exact ReadsAll.cons (as := []) (Reads.int i u) i1
    · subst a1
      rw [List.map_cons, List.map_cons, a2]
      exact ReadsAll.cons (as := []) (Reads.str x u) i1
mutual
theorem Rq.reads (I : Inv X pins σ H s) : ∀ {v : V} {d : PyData}, Rq Z H v d → ∀ u, RelV v u → ∃ as, Reads s.heap u d as ∧ ∀ a ∈ as, H a ≠ none
  | _, _, .non, _, r => by cases r; exact ⟨_, Reads.none, fun _ h => nomatch h⟩
  | _, _, .bl k, _, r => by cases r; exact ⟨_, Reads.bool k, fun _ h => nomatch h⟩
  | _, _, .int i, _, r => by obtain ⟨t, rfl⟩ := r; exact ⟨_, Reads.int i t, fun _ h => nomatch h⟩
  | _, _, .str x, _, r => by obtain ⟨t, rfl⟩ := r; exact ⟨_, Reads.str x t, fun _ h => nomatch h⟩
  | _, _, .lst (a := a) e n q, _, r => by
    cases r
    obtain ⟨its, rv, ⟨o, m, ho, hc, _, hd⟩, _⟩ := I.list (SqL.of e)
    obtain ⟨as, h1, h2⟩ := Rqs.reads I q _ rv
    refine ⟨_, Reads.list ho hc hd h1, fun b hb => ?_⟩
    rcases List.mem_cons.mp hb with rfl | hb
    · rw [e]; simp
    · exact h2 b hb
  | _, _, .tup (a := a) e _ n q, _, r => by
    cases r
    obtain ⟨its, rv, ⟨o, ho, hc, m, hd⟩, _⟩ := I.tuple (SqT.th e)
    obtain ⟨as, h1, h2⟩ := Rqs.reads I q _ rv
    exact ⟨_, Reads.tuple ho hc hd h1, h2⟩
  | _, _, .dct (a := a) (kvs := kvs) (ds := ds) e n q, _, r => by
    cases r
    obtain ⟨_, _, vs, kv, o, es, ep, ho, he, hd, _, hp, _⟩ := dk_of I.hok e
    obtain ⟨k1, k2⟩ := keys_read (h := s.heap) kv hp
    obtain ⟨bs, h1, h2, h3⟩ := Rqk.reads I q _ k2
    rw [h3] at k1
    refine ⟨_, Reads.dict ho he.1 hd k1 h1, fun b hb => ?_⟩
    rcases List.mem_append.mp hb with hb | hb
    · rw [List.mem_singleton.mp hb, e]; simp
    · exact h2 b hb
theorem Rqs.reads (I : Inv X pins σ H s) : ∀ {v : List V} {d : List PyData}, Rqs Z H v d → ∀ u, Vals v u → ∃ as, ReadsAll s.heap u d as ∧ ∀ a ∈ as, H a ≠ none
  | _, _, .nil, _, r => by cases r; exact ⟨_, ReadsAll.nil, fun _ h => nomatch h⟩
  | _, _, .cons q t, _, r => by
    cases r with
    | cons r rr =>
      obtain ⟨as, h1, h2⟩ := Rq.reads I q _ r
      obtain ⟨bs, h3, h4⟩ := Rqs.reads I t _ rr
      exact ⟨_, ReadsAll.cons h1 h3, fun a ha => (List.mem_append.mp ha).elim (h2 a) (h4 a)⟩
theorem Rqk.reads (I : Inv X pins σ H s) : ∀ {v : List (Key × V)} {d : List (PyData × PyData)}, Rqk Z H v d → ∀ u, Vals (v.map (·.2)) u → ∃ as, ReadsAll s.heap u (d.map (·.2)) as ∧ (∀ a ∈ as, H a ≠ none) ∧ v.map (fun p => kD p.1) = d.map (·.1)
  | _, _, .nil, _, r => by cases r; exact ⟨_, ReadsAll.nil, fun _ h => (nomatch h), rfl⟩
  | _, _, .cons q t, _, r => by
    cases r with
    | cons r rr =>
      obtain ⟨as, h1, h2⟩ := Rq.reads I q _ r
      obtain ⟨bs, h3, h4, h5⟩ := Rqk.reads I t _ rr
      exact ⟨_, ReadsAll.cons h1 h3, fun a ha => (List.mem_append.mp ha).elim (h2 a) (h4 a), by rw [List.map_cons, List.map_cons, h5]⟩
end
end

/-- a borrowed plain value, as data -/
theorem Rb.q {b : Bg} {Z : Addr → Prop} {H : Hp} {v : V} {p : PyData} (r : Rb b Z H v (.py p)) : Rq nz H v p := by
  rcases r with r | ⟨a, e, _, _, q⟩
  · exact Rq.mono (fun _ z => z.elim) (fun _ _ e _ => e) r
  · subst e
    exact Ow.rp (b := b) (d := .py p) (Z' := nz) (fun _ z => z.elim) (fun z => z) q

/-! ### ==, in -/
section
variable {X : Cx}
def rEqP : R2 := fun x y H Q => ∃ p q, Rq nz H x p ∧ Rq nz H y q ∧ p.plain = true ∧ q.plain = true ∧ (p.depth ≤ 60 ∨ q.depth ≤ 60) ∧ Q (.bl (p.eqv q)) H
def rNeP : R2 := fun x y H Q => ∃ p q, Rq nz H x p ∧ Rq nz H y q ∧ p.plain = true ∧ q.plain = true ∧ (p.depth ≤ 60 ∨ q.depth ≤ 60) ∧ Q (.bl (!p.eqv q)) H
theorem op_eqP (hu : X.A.units + 64 < cLine) : OpR X (compareOp .Eq) rEqP := by
  intro pins s σ H x y v u Q I rx ry ⟨p, q, hp, hq, p1, q1, hd, h⟩
  obtain ⟨as, r1, _⟩ := hp.reads I _ rx
  obtain ⟨bs, r2, _⟩ := hq.reads I _ ry
  exact SeqAt.eq_plain r1 r2 p1 q1 (by omega) ⟨.bl _, H, I, rfl, h⟩
theorem op_neP (hu : X.A.units + 64 < cLine) : OpR X (compareOp .NotEq) rNeP := by
  intro pins s σ H x y v u Q I rx ry ⟨p, q, hp, hq, p1, q1, hd, h⟩
  obtain ⟨as, r1, _⟩ := hp.reads I _ rx
  obtain ⟨bs, r2, _⟩ := hq.reads I _ ry
  exact SeqAt.ne_plain r1 r2 p1 q1 (by omega) ⟨.bl _, H, I, rfl, h⟩
def rInP (neg : Bool) : R2 := fun x y H Q => ∃ p qs, Rq nz H x p ∧ (Rq nz H y (.list qs) ∨ Rq nz H y (.tuple qs)) ∧ p.plain = true ∧ PyData.plainAll qs = true ∧ (p.depth ≤ 60 ∨ PyData.depthAll qs ≤ 60) ∧ Q (.bl (neg ^^ qs.any fun y => PyData.eqv y p)) H
theorem op_inP (hu : X.A.units + 64 < cLine) : OpR X (compareOp .In) (rInP false) := by
  intro pins s σ H x y v u Q I rx ry ⟨p, q, hp, hq, p1, q1, hd, h⟩
  obtain ⟨as, r1, _⟩ := hp.reads I _ rx
  rw [Bool.false_xor] at h
  rcases hq with hq | hq
  · obtain ⟨bs, r2, _⟩ := hq.reads I _ ry
    exact SeqAt.in_list_data r2 r1 q1 p1 (by omega) ⟨.bl _, H, I, rfl, h⟩
  · obtain ⟨bs, r2, _⟩ := hq.reads I _ ry
    exact SeqAt.in_tuple_data r2 r1 q1 p1 (by omega) ⟨.bl _, H, I, rfl, h⟩
theorem op_notInP (hu : X.A.units + 64 < cLine) : OpR X (compareOp .NotIn) (rInP true) := by
  intro pins s σ H x y v u Q I rx ry ⟨p, q, hp, hq, p1, q1, hd, h⟩
  obtain ⟨as, r1, _⟩ := hp.reads I _ rx
  rw [Bool.true_xor] at h
  rcases hq with hq | hq
  · obtain ⟨bs, r2, _⟩ := hq.reads I _ ry
    exact SeqAt.notIn_list_data r2 r1 q1 p1 (by omega) ⟨.bl _, H, I, rfl, h⟩
  · obtain ⟨bs, r2, _⟩ := hq.reads I _ ry
    exact SeqAt.notIn_tuple_data r2 r1 q1 p1 (by omega) ⟨.bl _, H, I, rfl, h⟩
end

/-- p == q, whatever plain data they are -/
@[simp] def gEq : D → D → (D → Prop) → Prop
  | .py (.tuple xs), .py (.tuple []), Q => Q (.py (.bool xs.isEmpty))
  | .py (.list xs), .py (.list []), Q => Q (.py (.bool xs.isEmpty))
  | .py p, .py q, Q => p.plain = true ∧ q.plain = true ∧ (p.depth ≤ 60 ∨ q.depth ≤ 60) ∧ Q (.py (.bool (p.eqv q)))
  | _, _, _ => False
@[simp] def gNe : D → D → (D → Prop) → Prop
  | .py (.tuple xs), .py (.tuple []), Q => Q (.py (.bool (!xs.isEmpty)))
  | .py (.list xs), .py (.list []), Q => Q (.py (.bool (!xs.isEmpty)))
  | .py p, .py q, Q => p.plain = true ∧ q.plain = true ∧ (p.depth ≤ 60 ∨ q.depth ≤ 60) ∧ Q (.py (.bool (!p.eqv q)))
  | _, _, _ => False
/-- x in c, c a list, a tuple, a text -/
@[simp] def gIn (neg : Bool) : D → D → (D → Prop) → Prop
  | .py (.str x), .py (.str y), Q => Q (.py (.bool (neg ^^ Txt.contains y x)))
  | .py p, .py (.list q), Q => p.plain = true ∧ PyData.plainAll q = true ∧ (p.depth ≤ 60 ∨ PyData.depthAll q ≤ 60) ∧ Q (.py (.bool (neg ^^ q.any fun y => PyData.eqv y p)))
  | .py p, .py (.tuple q), Q => p.plain = true ∧ PyData.plainAll q = true ∧ (p.depth ≤ 60 ∨ PyData.depthAll q ≤ 60) ∧ Q (.py (.bool (neg ^^ q.any fun y => PyData.eqv y p)))
  | _, _, _ => False

section
variable {X : Cx} {b : Bg} {W : WX} {e e1 e2 e3 : Expr} {es : List Expr} {t t1 t2 t3 : VT} {pos : Pos} {r : R2} {g : D → D → (D → Prop) → Prop}
/-- beside an empty one: no item is looked at -/
def rZ (K : PySem.W.Frag) (f : Bool → Bool) : R2 := fun x y H Q => ∃ a c xs, x = .ref a ∧ y = .ref c ∧ ((SqL K H a xs ∧ SqL K H c []) ∨ (SqT K H a xs ∧ SqT K H c [])) ∧ Q (.bl (f xs.isEmpty)) H
theorem op_eqZ (hu : X.A.units + 64 < cLine) : OpR X (compareOp .Eq) (rZ X.K id) := by
  intro pins s σ H x y v u Q I rx ry ⟨a, c, xs, ex, ey, hh, q⟩
  subst ex ey
  obtain rfl : v = .ref a := rx
  obtain rfl : u = .ref c := ry
  rcases hh with ⟨h1, h2⟩ | ⟨h1, h2⟩
  · obtain ⟨its, r, p, _⟩ := I.list h1
    obtain ⟨its2, r2, p2, _⟩ := I.list h2
    cases r2
    cases r with
    | nil => exact SeqAt.eq_listAt (e := fun _ => true) p.isList p2.isList rfl (by omega) (fun j h => absurd h (Nat.not_lt_zero j)) ⟨.bl _, H, I, rfl, q⟩
    | cons r rs => exact SeqAt.eq_list_lengthsAt p.isList p2.isList rfl (by omega) ⟨.bl _, H, I, rfl, q⟩
  · obtain ⟨its, r, p, _⟩ := I.tuple h1
    obtain ⟨its2, r2, p2, _⟩ := I.tuple h2
    cases r2
    refine SeqAt.eq_tupleAt (e := fun _ => true) p p2 (by omega) (fun j h1 h2 => absurd h2 (Nat.not_lt_zero j)) ⟨.bl _, H, I, ?_, q⟩
    cases r <;> simp [L2.RelV]
theorem op_neZ (hu : X.A.units + 64 < cLine) : OpR X (compareOp .NotEq) (rZ X.K not) := by
  intro pins s σ H x y v u Q I rx ry ⟨a, c, xs, ex, ey, hh, q⟩
  subst ex ey
  obtain rfl : v = .ref a := rx
  obtain rfl : u = .ref c := ry
  rcases hh with ⟨h1, h2⟩ | ⟨h1, h2⟩
  · obtain ⟨its, r, p, _⟩ := I.list h1
    obtain ⟨its2, r2, p2, _⟩ := I.list h2
    cases r2
    cases r with
    | nil => exact SeqAt.RcNeAt.lists (e := fun _ => true) p.isList p2.isList rfl (by omega) (fun j h => absurd h (Nat.not_lt_zero j)) _ _ _ _ ⟨.bl _, H, I, rfl, q⟩
    | cons r rs => exact SeqAt.RcNeAt.lists_lengths p.isList p2.isList rfl (by omega) _ _ _ _ ⟨.bl _, H, I, rfl, q⟩
  · obtain ⟨its, r, p, _⟩ := I.tuple h1
    obtain ⟨its2, r2, p2, _⟩ := I.tuple h2
    cases r2
    refine SeqAt.RcNeAt.tuples (e := fun _ => true) p p2 (by omega) (fun j h1 h2 => absurd h2 (Nat.not_lt_zero j)) _ _ _ _ ⟨.bl _, H, I, ?_, q⟩
    cases r <;> simp [L2.RelV]
theorem rz_of {f : Bool → Bool} {K : PySem.W.Frag} {Z : Addr → Prop} {H : Hp} {x y : V} {Q : VK} {Qd : D → Prop} {xs : List PyData} (gd : Gd b Z H) (h : Qd (.py (.bool (f xs.isEmpty)))) (k : ∀ v H' d, Ex b H H' → b.G H' → RE b Z H H' v d → Qd d → Q v H') :
    (Rb b Z H x (.py (.list xs)) → Rb b Z H y (.py (.list [])) → rZ K f x y H Q) ∧ (Rb b Z H x (.py (.tuple xs)) → Rb b Z H y (.py (.tuple [])) → rZ K f x y H Q) := by
  have ee : ∀ {us : List V}, Rqs Z H us xs → xs.isEmpty = us.isEmpty := fun q => by cases q <;> rfl
  refine ⟨fun rx ry => ?_, fun rx ry => ?_⟩
  · obtain ⟨a, us, rfl, ha, qa⟩ := rx.list
    obtain ⟨c, ws, rfl, hc, qc⟩ := ry.list
    cases qc
    exact ⟨a, c, us, rfl, rfl, .inl ⟨SqL.of ha, SqL.of hc⟩, k _ H (.py (.bool _)) Ex.refl gd.g (by rw [← ee qa]; exact .bl _) h⟩
  · obtain ⟨a, oa, us, rfl, ha, _, _, qa⟩ := rx.tuple
    obtain ⟨c, oc, ws, rfl, hc, _, _, qc⟩ := ry.tuple
    cases qc
    exact ⟨a, c, us, rfl, rfl, .inr ⟨SqT.th ha, SqT.th hc⟩, k _ H (.py (.bool _)) Ex.refl gd.g (by rw [← ee qa]; exact .bl _) h⟩
theorem rd_eq : OpD b (RE b) (fun x y H Q => rEqP x y H Q ∨ rZ X.K id x y H Q) gEq := by
  intro Z H x y dx dy Q Qd gd rx ry h k
  unfold gEq at h
  split at h
  · exact .inr ((rz_of (f := id) gd h k).2 rx ry)
  · exact .inr ((rz_of (f := id) gd h k).1 rx ry)
  · obtain ⟨h1, h2, h3, h⟩ := h
    exact .inl ⟨_, _, rx.q, ry.q, h1, h2, h3, k _ H (.py (.bool _)) Ex.refl gd.g (.bl _) h⟩
  · exact h.elim
theorem rd_ne : OpD b (RE b) (fun x y H Q => rNeP x y H Q ∨ rZ X.K not x y H Q) gNe := by
  intro Z H x y dx dy Q Qd gd rx ry h k
  unfold gNe at h
  split at h
  · exact .inr ((rz_of (f := not) gd h k).2 rx ry)
  · exact .inr ((rz_of (f := not) gd h k).1 rx ry)
  · obtain ⟨h1, h2, h3, h⟩ := h
    exact .inl ⟨_, _, rx.q, ry.q, h1, h2, h3, k _ H (.py (.bool _)) Ex.refl gd.g (.bl _) h⟩
  · exact h.elim
theorem ve_eq (hu : X.A.units + 64 < cLine) (h1 : VX X b W e1 t1) (h2 : VX X b W e2 t2) : VE X b W (.Compare e1 [.Eq] [e2] pos) (vBin gEq t1 t2) := ve_cmp (OpR.or (op_eqP hu) (op_eqZ hu)) rd_eq h1 h2 (nobehind _ (by decide) (by decide))
theorem ve_ne (hu : X.A.units + 64 < cLine) (h1 : VX X b W e1 t1) (h2 : VX X b W e2 t2) : VE X b W (.Compare e1 [.NotEq] [e2] pos) (vBin gNe t1 t2) := ve_cmp (OpR.or (op_neP hu) (op_neZ hu)) rd_ne h1 h2 (nobehind _ (by decide) (by decide))
theorem vt_eq (hu : X.A.units + 64 < cLine) (h1 : VX X b W e1 t1) (h2 : VX X b W e2 t2) : VTe X b W (.Compare e1 [.Eq] [e2] pos) (vTst (vBin gEq t1 t2)) := vt_cmp (OpR.or (op_eqP hu) (op_eqZ hu)) rd_eq h1 h2 (nobehind _ (by decide) (by decide))
theorem vt_ne (hu : X.A.units + 64 < cLine) (h1 : VX X b W e1 t1) (h2 : VX X b W e2 t2) : VTe X b W (.Compare e1 [.NotEq] [e2] pos) (vTst (vBin gNe t1 t2)) := vt_cmp (OpR.or (op_neP hu) (op_neZ hu)) rd_ne h1 h2 (nobehind _ (by decide) (by decide))

def rInS2 : R2 := fun x y H Q => ∃ i j, x = .str i ∧ y = .str j ∧ Q (.bl (Txt.contains j i)) H
def rNotInS2 : R2 := fun x y H Q => ∃ i j, x = .str i ∧ y = .str j ∧ Q (.bl (!Txt.contains j i)) H
theorem op_inS2 : OpR X (compareOp .In) rInS2 := fun pins s σ H x y v u Q I rx ry ⟨i, j, e1, e2, q⟩ => op_in_str pins s σ H x y v u Q I rx ry ⟨i, j, e1, e2, q⟩
theorem op_notInS2 : OpR X (compareOp .NotIn) rNotInS2 := fun pins s σ H x y v u Q I rx ry ⟨i, j, e1, e2, q⟩ => op_notIn_str pins s σ H x y v u Q I rx ry ⟨i, j, e1, e2, by
  have e : (Builtin.Str.occurrences j i 0 j.length 1).isEmpty = !Txt.contains j i := by unfold Txt.contains; rw [Bool.not_not]
  first | exact q | (rw [e]; exact q)⟩
theorem rd_in {neg : Bool} (r0 : R2) (h0 : ∀ (H : Hp) (i j : Str) (Q : VK), Q (.bl (neg ^^ Txt.contains j i)) H → r0 (.str i) (.str j) H Q) : OpD b (RE b) (fun x y H Q => r0 x y H Q ∨ rInP neg x y H Q) (gIn neg) := by
  intro Z H x y dx dy Q Qd gd rx ry h k
  have lst : ∀ {p : PyData} {q : List PyData}, Rb b Z H x (.py p) → Rb b Z H y (.py (.list q)) → (p.plain = true ∧ PyData.plainAll q = true ∧ (p.depth ≤ 60 ∨ PyData.depthAll q ≤ 60) ∧ Qd (.py (.bool (neg ^^ q.any fun y => PyData.eqv y p)))) → rInP neg x y H Q :=
    fun {p q} rx ry ⟨h1, h2, h3, h⟩ => ⟨p, q, rx.q, .inl ry.q, h1, h2, h3, k _ H (.py (.bool _)) Ex.refl gd.g (.bl _) h⟩
  have tup : ∀ {p : PyData} {q : List PyData}, Rb b Z H x (.py p) → Rb b Z H y (.py (.tuple q)) → (p.plain = true ∧ PyData.plainAll q = true ∧ (p.depth ≤ 60 ∨ PyData.depthAll q ≤ 60) ∧ Qd (.py (.bool (neg ^^ q.any fun y => PyData.eqv y p)))) → rInP neg x y H Q :=
    fun {p q} rx ry ⟨h1, h2, h3, h⟩ => ⟨p, q, rx.q, .inr ry.q, h1, h2, h3, k _ H (.py (.bool _)) Ex.refl gd.g (.bl _) h⟩
  match dx, dy, h, rx, ry with
  | .py (.str i), .py (.str j), h, rx, ry =>
    rw [rx.str, ry.str]
    exact .inl (h0 H i j Q (k _ H (.py (.bool _)) Ex.refl gd.g (.bl _) h))
  | .py .none, .py (.list q), h, rx, ry => exact .inr (lst rx ry h)
  | .py (.bool _), .py (.list q), h, rx, ry => exact .inr (lst rx ry h)
  | .py (.int _), .py (.list q), h, rx, ry => exact .inr (lst rx ry h)
  | .py (.str _), .py (.list q), h, rx, ry => exact .inr (lst rx ry h)
  | .py (.list _), .py (.list q), h, rx, ry => exact .inr (lst rx ry h)
  | .py (.tuple _), .py (.list q), h, rx, ry => exact .inr (lst rx ry h)
  | .py .none, .py (.tuple q), h, rx, ry => exact .inr (tup rx ry h)
  | .py (.bool _), .py (.tuple q), h, rx, ry => exact .inr (tup rx ry h)
  | .py (.int _), .py (.tuple q), h, rx, ry => exact .inr (tup rx ry h)
  | .py (.str _), .py (.tuple q), h, rx, ry => exact .inr (tup rx ry h)
  | .py (.list _), .py (.tuple q), h, rx, ry => exact .inr (tup rx ry h)
  | .py (.tuple _), .py (.tuple q), h, rx, ry => exact .inr (tup rx ry h)
  | .py (.dict _), .py (.list q), h, rx, ry => exact .inr (lst rx ry h)
  | .py (.dict _), .py (.tuple q), h, rx, ry => exact .inr (tup rx ry h)
theorem ve_in (hu : X.A.units + 64 < cLine) (h1 : VX X b W e1 t1) (h2 : VX X b W e2 t2) (hm : behindInMarks .In e2 = false := by rfl) : VE X b W (.Compare e1 [.In] [e2] pos) (vBin (gIn false) t1 t2) :=
  ve_cmp (OpR.or op_inS2 (op_inP hu)) (rd_in rInS2 fun H i j Q q => ⟨i, j, rfl, rfl, by rw [Bool.false_xor] at q; exact q⟩) h1 h2 hm
theorem ve_notIn (hu : X.A.units + 64 < cLine) (h1 : VX X b W e1 t1) (h2 : VX X b W e2 t2) (hm : behindInMarks .NotIn e2 = false := by rfl) : VE X b W (.Compare e1 [.NotIn] [e2] pos) (vBin (gIn true) t1 t2) :=
  ve_cmp (OpR.or op_notInS2 (op_notInP hu)) (rd_in rNotInS2 fun H i j Q q => ⟨i, j, rfl, rfl, by rw [Bool.true_xor] at q; exact q⟩) h1 h2 hm
theorem vt_in (hu : X.A.units + 64 < cLine) (h1 : VX X b W e1 t1) (h2 : VX X b W e2 t2) (hm : behindInMarks .In e2 = false := by rfl) : VTe X b W (.Compare e1 [.In] [e2] pos) (vTst (vBin (gIn false) t1 t2)) :=
  vt_cmp (OpR.or op_inS2 (op_inP hu)) (rd_in rInS2 fun H i j Q q => ⟨i, j, rfl, rfl, by rw [Bool.false_xor] at q; exact q⟩) h1 h2 hm
theorem vt_notIn (hu : X.A.units + 64 < cLine) (h1 : VX X b W e1 t1) (h2 : VX X b W e2 t2) (hm : behindInMarks .NotIn e2 = false := by rfl) : VTe X b W (.Compare e1 [.NotIn] [e2] pos) (vTst (vBin (gIn true) t1 t2)) :=
  vt_cmp (OpR.or op_notInS2 (op_notInP hu)) (rd_in rNotInS2 fun H i j Q q => ⟨i, j, rfl, rfl, by rw [Bool.true_xor] at q; exact q⟩) h1 h2 hm

/-! ### is None -/
@[simp] def isNn : PyData → Bool
  | .none => true
  | _ => false
@[simp] def gIsN (neg : Bool) : D → D → (D → Prop) → Prop
  | .py p, .py .none, Q => Q (.py (.bool (neg ^^ isNn p)))
  | .raw v, .py .none, Q => Q (.py (.bool (neg ^^ decide (v = V.non))))
  | .obj _ _ _, .py .none, Q => Q (.py (.bool neg))
  | _, _, _ => False
theorem Rq.isN {Z : Addr → Prop} {H : Hp} {v : V} {p : PyData} (r : Rq Z H v p) : decide (v = V.non) = isNn p := by
  cases r <;> rfl
theorem rd_isN {neg : Bool} {f : Bool → Bool} (hf : ∀ k, f k = (neg ^^ k)) : OpD b (RE b) (fun x y H Q => y = .non ∧ Q (.bl (f (decide (x = .non)))) H) (gIsN neg) := by
  intro Z H x y dx dy Q Qd gd rx ry h k
  match dx, dy, h, rx, ry with
  | .py p, .py .none, h, rx, ry =>
    refine ⟨ry.none, ?_⟩
    rw [rx.q.isN, hf]
    exact k _ H (.py (.bool _)) Ex.refl gd.g (.bl _) h
  | .raw v, .py .none, h, rx, ry =>
    refine ⟨ry.none, ?_⟩
    have e : x = v := by
      rcases rx with r | ⟨a, e, _, _, q⟩
      · exact r
      · exact q.elim
    rw [hf, e]
    exact k _ H (.py (.bool _)) Ex.refl gd.g (.bl _) h
  | .obj _ _ _, .py .none, h, rx, ry =>
    refine ⟨ry.none, ?_⟩
    obtain ⟨dx, xs, e, _⟩ := rx.obj
    subst e
    rw [hf, decide_eq_false (by intro h; cases h), Bool.xor_false]
    exact k _ H (.py (.bool _)) Ex.refl gd.g (.bl _) h
theorem ve_isN (h1 : VX X b W e1 t1) (h2 : VX X b W e2 t2) : VE X b W (.Compare e1 [.Is] [e2] pos) (vBin (gIsN false) t1 t2) := ve_cmp op_isN (rd_isN (f := id) fun k => by rw [Bool.false_xor]; rfl) h1 h2 (nobehind _ (by decide) (by decide))
theorem ve_notN (h1 : VX X b W e1 t1) (h2 : VX X b W e2 t2) : VE X b W (.Compare e1 [.IsNot] [e2] pos) (vBin (gIsN true) t1 t2) := ve_cmp op_notN (rd_isN (f := not) fun k => by rw [Bool.true_xor]) h1 h2 (nobehind _ (by decide) (by decide))
theorem vt_isN (h1 : VX X b W e1 t1) (h2 : VX X b W e2 t2) : VTe X b W (.Compare e1 [.Is] [e2] pos) (vTst (vBin (gIsN false) t1 t2)) := vt_cmp op_isN (rd_isN (f := id) fun k => by rw [Bool.false_xor]; rfl) h1 h2 (nobehind _ (by decide) (by decide))
theorem vt_notN (h1 : VX X b W e1 t1) (h2 : VX X b W e2 t2) : VTe X b W (.Compare e1 [.IsNot] [e2] pos) (vTst (vBin (gIsN true) t1 t2)) := vt_cmp op_notN (rd_isN (f := not) fun k => by rw [Bool.true_xor]) h1 h2 (nobehind _ (by decide) (by decide))

/-! ### chains, and, or, not, if -/
@[simp] def vChain (g g' : D → D → (D → Prop) → Prop) (ta tb tc : VT) : VT := fun ρ Q E => ta ρ (fun x => tb ρ (fun y => g x y fun z => ∃ k, z = .py (.bool k) ∧ if k = true then tc ρ (fun w => g' y w Q) E else Q (.py (.bool false))) E) E
theorem chain_core {r' : R2} {g' : D → D → (D → Prop) → Prop} (hd : OpD b (RE b) r g) (hd' : OpD b (RE b) r' g') :
    ∀ σ H Q, LE b W (RE b) (vChain g g' t1 t2 t3) σ H Q → tChain r r' (LE b W (fun Z _ H v d => Rb b Z H v d) t1) (LE b W (fun Z _ H v d => Rb b Z H v d) t2) (LE b W (fun Z _ H v d => Rb b Z H v d) t3) σ H Q :=
  fun σ H Q ⟨Zo, Z, ρ, Qd, Ed, v, q, l, m⟩ => ⟨Zo, Z, ρ, _, Ed, v, q, fun x H1 d x1 g1 r1 q1 =>
    ⟨Zo, Z, ρ, _, Ed, v.ex x1 g1, q1, fun y H2 d2 x2 g2 r2 q2 => by
      have v2 := (v.ex x1 g1).ex x2 g2
      refine hd Z H2 x y d d2 _ _ v2.gd (r1.ex ((v.ex x1 g1).keep x2) x2) r2 q2 fun u H3 d3 x3 g3 r3 ⟨k, e3, q3⟩ => ?_
      subst e3
      refine ⟨k, Rb.bool (b := b) (Z := Z) (H := H3) (.inl r3), ?_⟩
      cases k with
      | false => exact l _ H3 (.py (.bool false)) ((x1.trans x2).trans x3) g3 (Rq.bl false) q3
      | true => exact ⟨Zo, Z, ρ, _, Ed, v2.ex x3 g3, q3, fun w H4 d4 x4 g4 r4 q4 => hd' Z H4 y w d2 d4 Q Qd ((v2.ex x3 g3).ex x4 g4).gd ((r2.ex (v2.keep x3) x3).ex ((v2.ex x3 g3).keep x4) x4) r4 q4
            fun u5 H5 d5 x5 g5 r5 q5 => l u5 H5 d5 ((((x1.trans x2).trans x3).trans x4).trans x5) g5 r5 q5,
          fun c z H4 er x4 g4 r4 q4 => m c z H4 er (((x1.trans x2).trans x3).trans x4) g4 r4 q4⟩,
      fun c z H2 er x2 g2 r2 q2 => m c z H2 er (x1.trans x2) g2 r2 q2⟩, m⟩
theorem ve_chain {op op' : CmpOp} {r' : R2} {g' : D → D → (D → Prop) → Prop} (ho : OpR X (compareOp op) r) (hd : OpD b (RE b) r g) (ho' : OpR X (compareOp op') r') (hd' : OpD b (RE b) r' g')
    (h1 : VX X b W e1 t1) (h2 : VX X b W e2 t2) (h3 : VX X b W e3 t3) (hm : lastMarks [op, op'] [e2, e3] = false) : VE X b W (.Compare e1 [op, op'] [e2, e3] pos) (vChain g g' t1 t2 t3) :=
  pe_mono (pe_chain ho ho' h1 h2 h3 hm) (chain_core hd hd')
theorem vt_chain {op op' : CmpOp} {r' : R2} {g' : D → D → (D → Prop) → Prop} (ho : OpR X (compareOp op) r) (hd : OpD b (RE b) r g) (ho' : OpR X (compareOp op') r') (hd' : OpD b (RE b) r' g')
    (h1 : VX X b W e1 t1) (h2 : VX X b W e2 t2) (h3 : VX X b W e3 t3) (hm : lastMarks [op, op'] [e2, e3] = false) : VTe X b W (.Compare e1 [op, op'] [e2, e3] pos) (vTst (vChain g g' t1 t2 t3)) :=
  pt_mono (pt_chain ho ho' h1 h2 h3 hm) fun σ H Q ⟨Zo, Z, ρ, Qd, Ed, v, q, l, m⟩ => chain_core hd hd' σ H _ ⟨Zo, Z, ρ, _, Ed, v, q, fun x H1 d x1 g1 r1 ⟨k, e, q1⟩ => ⟨k, by
    subst e
    exact Rb.bool (b := b) (.inl r1), l k H1 x1 g1 q1⟩, m⟩
theorem ve_le2 (h1 : VX X b W e1 t1) (h2 : VX X b W e2 t2) (h3 : VX X b W e3 t3) : VE X b W (.Compare e1 [.LtE, .LtE] [e2, e3] pos) (vChain gLe gLe t1 t2 t3) :=
  ve_chain op_le (rd_I0 fun _ _ _ _ => .bl _) op_le (rd_I0 fun _ _ _ _ => .bl _) h1 h2 h3 (by show behindInMarks _ _ = false; exact nobehind _ (by decide) (by decide))
theorem vt_le2 (h1 : VX X b W e1 t1) (h2 : VX X b W e2 t2) (h3 : VX X b W e3 t3) : VTe X b W (.Compare e1 [.LtE, .LtE] [e2, e3] pos) (vTst (vChain gLe gLe t1 t2 t3)) :=
  vt_chain op_le (rd_I0 fun _ _ _ _ => .bl _) op_le (rd_I0 fun _ _ _ _ => .bl _) h1 h2 h3 (by show behindInMarks _ _ = false; exact nobehind _ (by decide) (by decide))
theorem ve_leLt (h1 : VX X b W e1 t1) (h2 : VX X b W e2 t2) (h3 : VX X b W e3 t3) : VE X b W (.Compare e1 [.LtE, .Lt] [e2, e3] pos) (vChain gLe gLt t1 t2 t3) :=
  ve_chain op_le (rd_I0 fun _ _ _ _ => .bl _) op_lt (rd_I0 fun _ _ _ _ => .bl _) h1 h2 h3 (by show behindInMarks _ _ = false; exact nobehind _ (by decide) (by decide))
theorem vt_leLt (h1 : VX X b W e1 t1) (h2 : VX X b W e2 t2) (h3 : VX X b W e3 t3) : VTe X b W (.Compare e1 [.LtE, .Lt] [e2, e3] pos) (vTst (vChain gLe gLt t1 t2 t3)) :=
  vt_chain op_le (rd_I0 fun _ _ _ _ => .bl _) op_lt (rd_I0 fun _ _ _ _ => .bl _) h1 h2 h3 (by show behindInMarks _ _ = false; exact nobehind _ (by decide) (by decide))
theorem ve_lt2 (h1 : VX X b W e1 t1) (h2 : VX X b W e2 t2) (h3 : VX X b W e3 t3) : VE X b W (.Compare e1 [.Lt, .Lt] [e2, e3] pos) (vChain gLt gLt t1 t2 t3) :=
  ve_chain op_lt (rd_I0 fun _ _ _ _ => .bl _) op_lt (rd_I0 fun _ _ _ _ => .bl _) h1 h2 h3 (by show behindInMarks _ _ = false; exact nobehind _ (by decide) (by decide))
theorem vt_lt2 (h1 : VX X b W e1 t1) (h2 : VX X b W e2 t2) (h3 : VX X b W e3 t3) : VTe X b W (.Compare e1 [.Lt, .Lt] [e2, e3] pos) (vTst (vChain gLt gLt t1 t2 t3)) :=
  vt_chain op_lt (rd_I0 fun _ _ _ _ => .bl _) op_lt (rd_I0 fun _ _ _ _ => .bl _) h1 h2 h3 (by show behindInMarks _ _ = false; exact nobehind _ (by decide) (by decide))
theorem ve_ltLe (h1 : VX X b W e1 t1) (h2 : VX X b W e2 t2) (h3 : VX X b W e3 t3) : VE X b W (.Compare e1 [.Lt, .LtE] [e2, e3] pos) (vChain gLt gLe t1 t2 t3) :=
  ve_chain op_lt (rd_I0 fun _ _ _ _ => .bl _) op_le (rd_I0 fun _ _ _ _ => .bl _) h1 h2 h3 (by show behindInMarks _ _ = false; exact nobehind _ (by decide) (by decide))
theorem vt_ltLe (h1 : VX X b W e1 t1) (h2 : VX X b W e2 t2) (h3 : VX X b W e3 t3) : VTe X b W (.Compare e1 [.Lt, .LtE] [e2, e3] pos) (vTst (vChain gLt gLe t1 t2 t3)) :=
  vt_chain op_lt (rd_I0 fun _ _ _ _ => .bl _) op_le (rd_I0 fun _ _ _ _ => .bl _) h1 h2 h3 (by show behindInMarks _ _ = false; exact nobehind _ (by decide) (by decide))

@[simp] def vAnd (ta tb : VT) : VT := fun ρ Q E => ta ρ (fun x => ∃ k, x = .py (.bool k) ∧ if k = true then tb ρ Q E else Q (.py (.bool false))) E
@[simp] def vOr (ta tb : VT) : VT := fun ρ Q E => ta ρ (fun x => ∃ k, x = .py (.bool k) ∧ if k = true then Q (.py (.bool true)) else tb ρ Q E) E
@[simp] def vNot (ta : VT) : VT := fun ρ Q E => ta ρ (fun x => ∃ k, x = .py (.bool k) ∧ Q (.py (.bool (!k)))) E
theorem ve_one {op} (h : VE X b W e t) : VE X b W (.BoolOp op [e] pos) t := pe_one h
theorem ve_and (h1 : VX X b W e1 t1) (h2 : VE X b W (.BoolOp .And (e2 :: es) pos) t2) : VE X b W (.BoolOp .And (e1 :: e2 :: es) pos) (vAnd t1 t2) :=
  pe_mono (pe_and h1 h2) fun σ H Q ⟨Zo, Z, ρ, Qd, Ed, v, q, l, m⟩ => ⟨Zo, Z, ρ, _, Ed, v, q, fun x H1 d x1 g1 r1 ⟨k, e, q1⟩ => by
    subst e
    refine ⟨k, r1.bool, ?_⟩
    cases k with
    | false => exact l _ H1 (.py (.bool false)) x1 g1 (Rq.bl false) q1
    | true => exact ⟨Zo, Z, ρ, _, Ed, v.ex x1 g1, q1, fun y H2 d2 x2 g2 r2 q2 => l y H2 d2 (x1.trans x2) g2 r2 q2, fun c z H2 er x2 g2 r2 q2 => m c z H2 er (x1.trans x2) g2 r2 q2⟩, m⟩
theorem ve_or (h1 : VX X b W e1 t1) (h2 : VE X b W (.BoolOp .Or (e2 :: es) pos) t2) : VE X b W (.BoolOp .Or (e1 :: e2 :: es) pos) (vOr t1 t2) :=
  pe_mono (pe_or h1 h2) fun σ H Q ⟨Zo, Z, ρ, Qd, Ed, v, q, l, m⟩ => ⟨Zo, Z, ρ, _, Ed, v, q, fun x H1 d x1 g1 r1 ⟨k, e, q1⟩ => by
    subst e
    refine ⟨k, r1.bool, ?_⟩
    cases k with
    | true => exact l _ H1 (.py (.bool true)) x1 g1 (Rq.bl true) q1
    | false => exact ⟨Zo, Z, ρ, _, Ed, v.ex x1 g1, q1, fun y H2 d2 x2 g2 r2 q2 => l y H2 d2 (x1.trans x2) g2 r2 q2, fun c z H2 er x2 g2 r2 q2 => m c z H2 er (x1.trans x2) g2 r2 q2⟩, m⟩
theorem ve_not (h1 : VX X b W e1 t1) : VE X b W (.UnaryOp .Not e1 pos) (vNot t1) :=
  pe_mono (pe_not h1) fun σ H Q ⟨Zo, Z, ρ, Qd, Ed, v, q, l, m⟩ => ⟨Zo, Z, ρ, _, Ed, v, q, fun x H1 d x1 g1 r1 ⟨k, e, q1⟩ => by
    subst e
    exact ⟨k, r1.bool, l _ H1 (.py (.bool _)) x1 g1 (Rq.bl _) q1⟩, m⟩
@[simp] def vIf (c : VB) (ta tb : VT) : VT := fun ρ Q E => c ρ (fun k => if k = true then ta ρ Q E else tb ρ Q E) E
theorem ve_if {c : Expr} {tc : VB} (hc : VTe X b W c tc) (h1 : VE X b W e1 t1) (h2 : VE X b W e2 t2) : VE X b W (.IfExp c e1 e2 pos) (vIf tc t1 t2) :=
  pe_mono (pe_ifExp hc h1 h2) fun σ H Q ⟨Zo, Z, ρ, Qd, Ed, v, q, l, m⟩ => ⟨Zo, Z, ρ, _, Ed, v, q, fun k H1 x1 g1 q1 => by
    cases k with
    | true => exact ⟨Zo, Z, ρ, _, Ed, v.ex x1 g1, q1, fun y H2 d2 x2 g2 r2 q2 => l y H2 d2 (x1.trans x2) g2 r2 q2, fun c z H2 er x2 g2 r2 q2 => m c z H2 er (x1.trans x2) g2 r2 q2⟩
    | false => exact ⟨Zo, Z, ρ, _, Ed, v.ex x1 g1, q1, fun y H2 d2 x2 g2 r2 q2 => l y H2 d2 (x1.trans x2) g2 r2 q2, fun c z H2 er x2 g2 r2 q2 => m c z H2 er (x1.trans x2) g2 r2 q2⟩, m⟩
/-- the same over borrowed values -/
theorem vx_if {c : Expr} {tc : VB} (hc : VTe X b W c tc) (h1 : VX X b W e1 t1) (h2 : VX X b W e2 t2) : VX X b W (.IfExp c e1 e2 pos) (vIf tc t1 t2) :=
  pe_mono (pe_ifExp hc h1 h2) fun σ H Q ⟨Zo, Z, ρ, Qd, Ed, v, q, l, m⟩ => ⟨Zo, Z, ρ, _, Ed, v, q, fun k H1 x1 g1 q1 => by
    cases k with
    | true => exact ⟨Zo, Z, ρ, _, Ed, v.ex x1 g1, q1, fun y H2 d2 x2 g2 r2 q2 => l y H2 d2 (x1.trans x2) g2 r2 q2, fun c z H2 er x2 g2 r2 q2 => m c z H2 er (x1.trans x2) g2 r2 q2⟩
    | false => exact ⟨Zo, Z, ρ, _, Ed, v.ex x1 g1, q1, fun y H2 d2 x2 g2 r2 q2 => l y H2 d2 (x1.trans x2) g2 r2 q2, fun c z H2 er x2 g2 r2 q2 => m c z H2 er (x1.trans x2) g2 r2 q2⟩, m⟩

/-! ### tests -/
@[simp] def wAnd (t u : VB) : VB := fun ρ Q E => t ρ (fun c => if c = true then u ρ Q E else Q false) E
@[simp] def wOr (t u : VB) : VB := fun ρ Q E => t ρ (fun c => if c = true then Q true else u ρ Q E) E
@[simp] def wNot (t : VB) : VB := fun ρ Q E => t ρ (fun c => Q (!c)) E
/-- and, or: whatever their whole is -/
def VWe (X : Cx) (b : Bg) (W : WX) (e : Expr) (t : VB) : Prop := PW X e (LB b W t)
theorem pw_mono {e : Expr} {t t' : TT} (h : PW X e t) (m : ∀ σ H Q, t' σ H Q → t σ H Q) : PW X e t' := ⟨fun w pins s σ H Q I q => h.run w pins s σ H Q I (m σ H Q q)⟩
theorem VWe.pt {t : VB} (h : VWe X b W e t) : VTe X b W e t := PW.pt h
theorem lb_then {k : Bool} {u : VB} {Zo Z : Addr → Prop} {σ : L2.St} {H H1 : Hp} {ρ : VEnv} {Q : Bool → Hp → Prop} {Qd : Bool → Prop} {Ed : Er → Prop} (v : VOk b Zo Z σ H ρ) (l : ∀ k H', Ex b H H' → b.G H' → Qd k → Q k H') (m : ∀ c x H' er, Ex b H H' → b.G H' → ErRp b Z H' c x er → Ed er → W c x σ H')
    (x1 : Ex b H H1) (g1 : b.G H1) (q : u ρ Qd Ed) : LB b W u σ H1 Q :=
  ⟨Zo, Z, ρ, _, Ed, v.ex x1 g1, q, fun k H2 x2 g2 q2 => l k H2 (x1.trans x2) g2 q2, fun c z H2 er x2 g2 r2 q2 => m c z H2 er (x1.trans x2) g2 r2 q2⟩
theorem vw_and1 {t : VB} (h : VTe X b W e t) : VWe X b W (.BoolOp .And [e] pos) t := pw_and1 h
theorem vw_or1 {t : VB} (h : VTe X b W e t) : VWe X b W (.BoolOp .Or [e] pos) t := pw_or1 h
theorem vw_and {t u : VB} (h1 : VTe X b W e1 t) (h2 : VWe X b W (.BoolOp .And (e2 :: es) pos) u) : VWe X b W (.BoolOp .And (e1 :: e2 :: es) pos) (wAnd t u) :=
  pw_mono (pw_and h1 h2) fun σ H Q ⟨Zo, Z, ρ, Qd, Ed, v, q, l, m⟩ => ⟨Zo, Z, ρ, _, Ed, v, q, fun k H1 x1 g1 q1 => by
    cases k with
    | true => exact lb_then (k := true) v l m x1 g1 q1
    | false => exact l false H1 x1 g1 q1, m⟩
theorem vw_or {t u : VB} (h1 : VTe X b W e1 t) (h2 : VWe X b W (.BoolOp .Or (e2 :: es) pos) u) : VWe X b W (.BoolOp .Or (e1 :: e2 :: es) pos) (wOr t u) :=
  pw_mono (pw_or h1 h2) fun σ H Q ⟨Zo, Z, ρ, Qd, Ed, v, q, l, m⟩ => ⟨Zo, Z, ρ, _, Ed, v, q, fun k H1 x1 g1 q1 => by
    cases k with
    | false => exact lb_then (k := true) v l m x1 g1 q1
    | true => exact l true H1 x1 g1 q1, m⟩
theorem vt_not {t : VB} (h1 : VTe X b W e1 t) : VTe X b W (.UnaryOp .Not e1 pos) (wNot t) :=
  pt_mono (pt_not h1) fun σ H Q ⟨Zo, Z, ρ, Qd, Ed, v, q, l, m⟩ => ⟨Zo, Z, ρ, _, Ed, v, q, fun k H1 x1 g1 q1 => l _ H1 x1 g1 q1, m⟩
end
end VL
set_option Elab.async false
set_option linter.all false
set_option maxRecDepth 100000
set_option maxHeartbeats 4000000
namespace VL
open PySem PySem.Spec PyProof.Rows L2

/-- a text by its signs -/
abbrev mkS (l : List Nat) : Str := ⟨l.toArray⟩
abbrev sl (x : Str) : List Nat := x.cps.toList

/-! ### many borrowed values -/
inductive Rbs (b : Bg) (Z : Addr → Prop) (H : Hp) : List V → List D → Prop
  | nil : Rbs b Z H [] []
  | cons {v : V} {d : D} {vs : List V} {ds : List D} : Rb b Z H v d → Rbs b Z H vs ds → Rbs b Z H (v :: vs) (d :: ds)
def LAX (b : Bg) (W : WX) (t : VA) : TA := fun σ H Q => ∃ Zo Z ρ Qd Ed, VOk b Zo Z σ H ρ ∧ t ρ Qd Ed ∧
  (∀ v H' d, Ex b H H' → b.G H' → Rbs b Z H' v d → Qd d → Q v H') ∧ ∀ c x H' er, Ex b H H' → b.G H' → ErRp b Z H' c x er → Ed er → W c x σ H'
def VXs (X : Cx) (b : Bg) (W : WX) (es : List Expr) (t : VA) : Prop := PA X es (LAX b W t)

/-- a rule of a list of values -/
def CalD (b : Bg) (R : (Addr → Prop) → Hp → Hp → V → D → Prop) (r : List V → Hp → VK → Prop) (g : List D → (D → Prop) → Prop) : Prop :=
  ∀ (Z : Addr → Prop) (H : Hp) (x : List V) (dx : List D) (Q : VK) (Qd : D → Prop), Gd b Z H → Rbs b Z H x dx → g dx Qd → (∀ v H' d, Ex b H H' → b.G H' → R Z H H' v d → Qd d → Q v H') → r x H Q
@[simp] def vCal (g : List D → (D → Prop) → Prop) (ta : VA) : VT := fun ρ Q E => ta ρ (fun ds => g ds Q) E
/-- a method of a value -/
def MetD (b : Bg) (R : (Addr → Prop) → Hp → Hp → V → D → Prop) (T : V → Hp → Prop) (r : V → List V → Hp → VK → Prop) (g : D → List D → (D → Prop) → Prop) : Prop :=
  ∀ (Z : Addr → Prop) (H : Hp) (o : V) (d : D) (x : List V) (dx : List D) (Q : VK) (Qd : D → Prop), Gd b Z H → Rb b Z H o d → Rbs b Z H x dx → g d dx Qd → (∀ v H' d, Ex b H H' → b.G H' → R Z H H' v d → Qd d → Q v H') → r o x H Q
@[simp] def vMet (g : D → List D → (D → Prop) → Prop) (to : VT) (ta : VA) : VT := fun ρ Q E => to ρ (fun d => ta ρ (fun ds => g d ds Q) E) E

section
variable {X : Cx} {b : Bg} {W : WX} {e e1 e2 e3 : Expr} {es : List Expr} {t t1 t2 t3 : VT} {u : VA} {pos p : Pos} {r : List V → Hp → VK → Prop} {g : List D → (D → Prop) → Prop} {x : Str} {id T : String}
theorem Rbs.ex {Z : Addr → Prop} {H H' : Hp} (hk : ∀ a o, H a = some o → ¬ Z a → H' a = some o) (x : Ex b H H') : ∀ {v : List V} {d : List D}, Rbs b Z H v d → Rbs b Z H' v d
  | _, _, .nil => .nil
  | _, _, .cons r t => .cons (r.ex hk x) (Rbs.ex hk x t)
theorem Rbs.length {Z : Addr → Prop} {H : Hp} : ∀ {v : List V} {d : List D}, Rbs b Z H v d → v.length = d.length
  | _, _, .nil => rfl
  | _, _, .cons _ t => congrArg (· + 1) (Rbs.length t)
theorem vxs_nil : VXs X b W [] vNil := pa_mono pa_nil fun σ H Q ⟨Zo, Z, ρ, Qd, Ed, v, q, l, _⟩ => l [] H [] Ex.refl v.g .nil q
theorem vxs_cons (h : VX X b W e t) (k : VXs X b W es u) (hs : starEach (e :: es) X.env = (false, eval e X.env) :: starEach es X.env := by rfl) : VXs X b W (e :: es) (vCons t u) :=
  pa_mono (pa_cons h k hs) fun σ H Q ⟨Zo, Z, ρ, Qd, Ed, v, q, l, m⟩ => ⟨Zo, Z, ρ, _, Ed, v, q, fun x H1 d x1 g1 r1 q1 =>
    ⟨Zo, Z, ρ, _, Ed, v.ex x1 g1, q1, fun xs H2 ds x2 g2 r2 q2 => l (x :: xs) H2 (d :: ds) (x1.trans x2) g2 (.cons (r1.ex ((v.ex x1 g1).keep x2) x2) r2) q2, fun c y H2 er x2 g2 r2 q2 => m c y H2 er (x1.trans x2) g2 r2 q2⟩, m⟩
theorem coreC {R : (Addr → Prop) → Hp → Hp → V → D → Prop} (hR : ∀ Z H H1 H2 v d, b.G H1 → Ex b H H1 → R Z H1 H2 v d → R Z H H2 v d) (hd : CalD b R r g) : ∀ σ H Q, LE b W R (vCal g u) σ H Q → tCB r (LAX b W u) σ H Q :=
  fun σ H Q ⟨Zo, Z, ρ, Qd, Ed, v, q, l, m⟩ => ⟨Zo, Z, ρ, _, Ed, v, q, fun xs H1 ds x1 g1 r1 q1 => hd Z H1 xs ds Q Qd (v.ex x1 g1).gd r1 q1 fun w H2 d x2 g2 r2 q2 => l w H2 d (x1.trans x2) g2 (hR _ _ _ _ _ _ g1 x1 r2) q2, m⟩
theorem ve_callB (hc : CallR X (.builtin id) r) (hd : CalD b (RE b) r g) (hg : Gl X x) (hm : X.mg x = none) (hv : bootBuiltins x = some (.builtin id)) (ha : VXs X b W (e :: es) u) (hn : x ≠ "__name__" := by decide) (hdb : (x == ("__debug__" : Str)) = false := by decide)
    (he : starEach (e :: es) X.env = (false, eval e X.env) :: starEach es X.env := by rfl) (hpl : (backTo pos (starEach es X.env)).any (·.1) = false := by rfl) : VE X b W (.Call (.Name x p) (e :: es) [] pos) (vCal g u) :=
  pe_mono (pe_callB hc hg hm hv ha hn hdb he hpl) (coreC hRE hd)
theorem vn_callB (hc : CallR X (.builtin id) r) (hd : CalD b (RN b) r g) (hg : Gl X x) (hm : X.mg x = none) (hv : bootBuiltins x = some (.builtin id)) (ha : VXs X b W (e :: es) u) (hn : x ≠ "__name__" := by decide) (hdb : (x == ("__debug__" : Str)) = false := by decide)
    (he : starEach (e :: es) X.env = (false, eval e X.env) :: starEach es X.env := by rfl) (hpl : (backTo pos (starEach es X.env)).any (·.1) = false := by rfl) : VN X b W (.Call (.Name x p) (e :: es) [] pos) (vCal g u) :=
  pe_mono (pe_callB hc hg hm hv ha hn hdb he hpl) (coreC hRN hd)
theorem ve_callTy (hc : CallR X (.type T) r) (hd : CalD b (RE b) r g) (hg : Gl X x) (hm : X.mg x = none) (hv : bootBuiltins x = some (.type T)) (ha : VXs X b W (e :: es) u) (hn : x ≠ "__name__" := by decide) (hdb : (x == ("__debug__" : Str)) = false := by decide)
    (he : starEach (e :: es) X.env = (false, eval e X.env) :: starEach es X.env := by rfl) (hpl : (backTo pos (starEach es X.env)).any (·.1) = false := by rfl) : VE X b W (.Call (.Name x p) (e :: es) [] pos) (vCal g u) :=
  pe_mono (pe_callTy hc hg hm hv ha hn hdb he hpl) (coreC hRE hd)
theorem vn_callTy (hc : CallR X (.type T) r) (hd : CalD b (RN b) r g) (hg : Gl X x) (hm : X.mg x = none) (hv : bootBuiltins x = some (.type T)) (ha : VXs X b W (e :: es) u) (hn : x ≠ "__name__" := by decide) (hdb : (x == ("__debug__" : Str)) = false := by decide)
    (he : starEach (e :: es) X.env = (false, eval e X.env) :: starEach es X.env := by rfl) (hpl : (backTo pos (starEach es X.env)).any (·.1) = false := by rfl) : VN X b W (.Call (.Name x p) (e :: es) [] pos) (vCal g u) :=
  pe_mono (pe_callTy hc hg hm hv ha hn hdb he hpl) (coreC hRN hd)

/-! ### items -/
@[simp] def gIx : D → D → (D → Prop) → Prop
  | .py (.list xs), .py (.int i), Q => ∃ d, atI xs i = some d ∧ Q (.py d)
  | .py (.tuple xs), .py (.int i), Q => ∃ d, atI xs i = some d ∧ Q (.py d)
  | .py (.str z), .py (.int i), Q => z.length ≤ sizeLine ∧ ∃ c, atI z.cps.toList i = some c ∧ Q (.py (.str (mkS [c])))
  | _, _, _ => False
theorem Rqs.atI {Z : Addr → Prop} {H : Hp} {v : List V} {d : List PyData} {i : Int} {x : PyData} (r : Rqs Z H v d) (h : L2.atI d i = some x) : ∃ u, L2.atI v i = some u ∧ Rq Z H u x := by
  unfold L2.atI at h ⊢
  rw [r.length]
  cases e : ixN d.length i with
  | none => rw [e] at h; cases h
  | some j =>
    rw [e] at h
    exact r.get h
theorem rd_ix {K : PySem.W.Frag} : OpD b (RE b) (rIx K) gIx := by
  intro Z H x y dx dy Q Qd gd rx ry h k
  match dx, dy, h, rx, ry with
  | .py (.list xs), .py (.int i), ⟨d, e, h⟩, rx, ry =>
    obtain ⟨a, us, rfl, ha, qa⟩ := rx.list
    obtain ⟨w, e1, r1⟩ := qa.atI e
    exact .inl ⟨a, us, i, w, rfl, ry.int, SqL.of ha, e1, k w H (.py d) Ex.refl gd.g r1 h⟩
  | .py (.tuple xs), .py (.int i), ⟨d, e, h⟩, rx, ry =>
    obtain ⟨a, oa, us, rfl, ha, da, na, qa⟩ := rx.tuple
    obtain ⟨w, e1, r1⟩ := qa.atI e
    exact .inr (.inl ⟨a, us, i, w, rfl, ry.int, SqT.th ha, e1, k w H (.py d) Ex.refl gd.g r1 h⟩)
  | .py (.str z), .py (.int i), ⟨hl, c, e, h⟩, rx, ry =>
    exact .inr (.inr ⟨z, i, c, rx.str, ry.int, hl, e, k _ H (.py (.str (mkS [c]))) Ex.refl gd.g (.str _) h⟩)
theorem ve_ix (h1 : VX X b W e1 t1) (h2 : VX X b W e2 t2) (hs : PlainIx e2 := by exact fun _ _ => rfl) : VE X b W (.Subscript e1 e2 pos) (vBin gIx t1 t2) :=
  pe_mono (pe_ix ix_seq h1 h2 hs) (core2 hRE rd_ix)

/-! ### slices -/
def cutL {α : Type} (xs : List α) (lo hi : Option Int) : List α := (xs.drop (HT.sIx xs.length 0 lo)).take (HT.sIx xs.length xs.length hi - HT.sIx xs.length 0 lo)
theorem Rqs.cut {Z : Addr → Prop} {H : Hp} {v : List V} {d : List PyData} (lo hi : Option Int) (r : Rqs Z H v d) : Rqs Z H (cutV v lo hi) (cutL d lo hi) := by
  unfold cutV cutL
  rw [r.length]
  exact (r.drop _).take _
theorem cutL_whole {α : Type} {xs : List α} {lo hi : Option Int} (h : HT.sIx xs.length 0 lo = 0 ∧ HT.sIx xs.length xs.length hi = xs.length) : cutL xs lo hi = xs := by
  unfold cutL
  rw [h.1, h.2]
  simp
abbrev VO := VEnv → (Option Int → Prop) → (Er → Prop) → Prop
def LO (b : Bg) (W : WX) (t : VO) : TO := fun σ H Q => ∃ Zo Z ρ Qd Ed, VOk b Zo Z σ H ρ ∧ t ρ Qd Ed ∧
  (∀ k H', Ex b H H' → b.G H' → Qd k → Q k H') ∧ ∀ c x H' er, Ex b H H' → b.G H' → ErRp b Z H' c x er → Ed er → W c x σ H'
def VPt (X : Cx) (b : Bg) (W : WX) (e : Option Expr) (t : VO) : Prop := PO X e (LO b W t)
theorem po_mono {e : Option Expr} {t t' : TO} (h : PO X e t) (m : ∀ σ H Q, t' σ H Q → t σ H Q) : PO X e t' := ⟨fun pins s σ H Q I q => h.run pins s σ H Q I (m σ H Q q)⟩
@[simp] def oNo : VO := fun _ Q _ => Q none
@[simp] def oAt (t : VT) : VO := fun ρ Q E => t ρ (fun d => ∃ i, d = .py (.int i) ∧ Q (some i)) E
theorem vo_no : VPt X b W none oNo := po_mono po_none fun σ H Q ⟨Zo, Z, ρ, Qd, Ed, v, q, l, m⟩ => l none H Ex.refl v.g q
theorem vo_at (h : VX X b W e t) : VPt X b W (some e) (oAt t) := po_mono (po_some h) fun σ H Q ⟨Zo, Z, ρ, Qd, Ed, v, q, l, m⟩ => ⟨Zo, Z, ρ, _, Ed, v, q, fun x H1 d x1 g1 r1 ⟨i, e, q1⟩ => by
    subst e
    exact ⟨i, r1.int, l _ H1 x1 g1 q1⟩, m⟩
@[simp] def gSl : D → Option Int → Option Int → (D → Prop) → Prop
  | .py (.list xs), lo, hi, Q => Q (.py (.list (cutL xs lo hi)))
  | .py (.tuple xs), lo, hi, Q => Q (.py (.tuple (cutL xs lo hi)))
  | .py (.str z), lo, hi, Q => z.length ≤ sizeLine ∧ Q (.py (.str (mkS (cutL z.cps.toList lo hi))))
  | _, _, _, _ => False
@[simp] def gSlL : D → Option Int → Option Int → (D → Prop) → Prop
  | .py (.list xs), lo, hi, Q => Q (.py (.list (cutL xs lo hi)))
  | _, _, _, _ => False
@[simp] def vSl (g : D → Option Int → Option Int → (D → Prop) → Prop) (t : VT) (tl th : VO) : VT := fun ρ Q E => t ρ (fun x => tl ρ (fun lo => th ρ (fun hi => g x lo hi Q) E) E) E
def SliD (b : Bg) (R : (Addr → Prop) → Hp → Hp → V → D → Prop) (r : V → Option Int → Option Int → Hp → VK → Prop) (g : D → Option Int → Option Int → (D → Prop) → Prop) : Prop :=
  ∀ (Z : Addr → Prop) (H : Hp) (x : V) (lo hi : Option Int) (dx : D) (Q : VK) (Qd : D → Prop), Gd b Z H → Rb b Z H x dx → g dx lo hi Qd → (∀ v H' d, Ex b H H' → b.G H' → R Z H H' v d → Qd d → Q v H') → r x lo hi H Q
theorem coreS {R : (Addr → Prop) → Hp → Hp → V → D → Prop} {r : V → Option Int → Option Int → Hp → VK → Prop} {g : D → Option Int → Option Int → (D → Prop) → Prop} {tl th : VO} (hR : ∀ Z H H1 H2 v d, b.G H1 → Ex b H H1 → R Z H1 H2 v d → R Z H H2 v d) (hd : SliD b R r g) :
    ∀ σ H Q, LE b W R (vSl g t tl th) σ H Q → tSl r (LE b W (fun Z _ H v d => Rb b Z H v d) t) (LO b W tl) (LO b W th) σ H Q :=
  fun σ H Q ⟨Zo, Z, ρ, Qd, Ed, v, q, l, m⟩ => ⟨Zo, Z, ρ, _, Ed, v, q, fun x H1 d x1 g1 r1 q1 =>
    ⟨Zo, Z, ρ, _, Ed, v.ex x1 g1, q1, fun lo H2 x2 g2 q2 => ⟨Zo, Z, ρ, _, Ed, (v.ex x1 g1).ex x2 g2, q2, fun hi H3 x3 g3 q3 =>
        hd Z H3 x lo hi d Q Qd (((v.ex x1 g1).ex x2 g2).ex x3 g3).gd ((r1.ex ((v.ex x1 g1).keep x2) x2).ex (((v.ex x1 g1).ex x2 g2).keep x3) x3) q3 fun u H4 d4 x4 g4 r4 q4 => l u H4 d4 (((x1.trans x2).trans x3).trans x4) g4 (hR _ _ _ _ _ _ g3 ((x1.trans x2).trans x3) r4) q4,
        fun c z H3 er x3 g3 r3 q3 => m c z H3 er ((x1.trans x2).trans x3) g3 r3 q3⟩,
      fun c z H2 er x2 g2 r2 q2 => m c z H2 er (x1.trans x2) g2 r2 q2⟩, m⟩
theorem rd_slL {K : PySem.W.Frag} : SliD b (RN b) (rSlL K) gSlL := by
  intro Z H x lo hi dx Q Qd gd rx h k
  match dx, h, rx with
  | .py (.list xs), h, rx =>
    obtain ⟨a, us, rfl, ha, qa⟩ := rx.list
    exact ⟨a, us, rfl, SqL.of ha, fun p hp => k _ _ (.py (.list (cutL xs lo hi))) (Ex.new hp) (gd.new hp) ⟨p, rfl, hp, _, upd_same, (qa.cut lo hi).up' hp⟩ h⟩
theorem cutS_eq (z : Str) (lo hi : Option Int) : cutS z lo hi = mkS (cutL z.cps.toList lo hi) := by
  unfold cutS cutL
  first | rfl | simp [Str.length]
theorem rd_sl {K : PySem.W.Frag} : SliD b (RE b) (fun x lo hi H Q => rSlL K x lo hi H Q ∨ (fun x lo hi H Q => rSlF K x lo hi H Q ∨ rSlS x lo hi H Q) x lo hi H Q) gSl := by
  intro Z H x lo hi dx Q Qd gd rx h k
  match dx, h, rx with
  | .py (.list xs), h, rx =>
    refine .inl (rd_slL Z H x lo hi (.py (.list xs)) Q Qd gd rx h fun v H' d x1 g1 ⟨a, e, n, o⟩ q1 => k v H' d x1 g1 ?_ q1)
    subst e
    exact o.rp (fun _ z => .inl z) (gd.fresh n)
  | .py (.tuple xs), h, rx =>
    obtain ⟨a, oa, us, rfl, ha, da, na, qa⟩ := rx.tuple
    refine .inr (.inl ⟨a, us, rfl, SqT.th ha, fun hw => ?_, fun _ p o hp ho => ?_⟩)
    · rw [qa.length] at hw
      have h : Qd (.py (.tuple (cutL xs lo hi))) := h
      rw [cutL_whole hw] at h
      exact k _ H (.py (.tuple xs)) Ex.refl gd.g (.tup ha da na qa) h
    · exact k _ _ (.py (.tuple (cutL xs lo hi))) (Ex.new hp) (gd.new hp) (.tup upd_same ho (gd.fresh hp) ((qa.cut lo hi).up hp)) h
  | .py (.str z), ⟨hl, h⟩, rx =>
    refine .inr (.inr ⟨z, rx.str, hl, ?_⟩)
    rw [cutS_eq]
    exact k _ H (.py (.str _)) Ex.refl gd.g (.str _) h
theorem ve_sl {lo hi : Option Expr} {tl th : VO} {p2 : Pos} (h : VX X b W e t) (h1 : VPt X b W lo tl) (h2 : VPt X b W hi th) : VE X b W (.Subscript e (.Slice lo hi none p2) pos) (vSl gSl t tl th) :=
  pe_mono (pe_slice (sl_list.or (sl_tupF.or sl_str)) h h1 h2) (coreS hRE rd_sl)
theorem vn_sl {lo hi : Option Expr} {tl th : VO} {p2 : Pos} (h : VX X b W e t) (h1 : VPt X b W lo tl) (h2 : VPt X b W hi th) : VN X b W (.Subscript e (.Slice lo hi none p2) pos) (vSl gSlL t tl th) :=
  pe_mono (pe_slice sl_list h h1 h2) (coreS hRN rd_slL)
end
end VL
set_option Elab.async false
set_option linter.all false
set_option maxRecDepth 100000
set_option maxHeartbeats 4000000
namespace VL
open PySem PySem.Spec PyProof.Rows L2

section
variable {X : Cx} {b : Bg} {W : WX} {e e1 e2 e3 o : Expr} {es : List Expr} {t t1 t2 t3 : VT} {u : VA} {pos p apos cpos : Pos} {x name : Str} {id T : String}
theorem CalD.toE {r : List V → Hp → VK → Prop} {g : List D → (D → Prop) → Prop} (h : CalD b (RN b) r g) : CalD b (RE b) r g := fun Z H x dx Q Qd gd rx q k =>
  h Z H x dx Q Qd gd rx q fun v H' d x1 g1 ⟨a, e, n, o⟩ q1 => k v H' d x1 g1 (by subst e; exact o.rp (fun _ z => .inl z) (gd.fresh n)) q1
theorem Rbs.one {Z : Addr → Prop} {H : Hp} {v : List V} {d : D} (r : Rbs b Z H v [d]) : ∃ x, v = [x] ∧ Rb b Z H x d := by
  cases r with
  | cons r t => cases t; exact ⟨_, rfl, r⟩
theorem Rbs.two {Z : Addr → Prop} {H : Hp} {v : List V} {d d2 : D} (r : Rbs b Z H v [d, d2]) : ∃ x y, v = [x, y] ∧ Rb b Z H x d ∧ Rb b Z H y d2 := by
  cases r with
  | cons r t =>
    cases t with
    | cons r2 t => cases t; exact ⟨_, _, rfl, r, r2⟩

/-! ### built-in functions -/
@[simp] def gLen : List D → (D → Prop) → Prop
  | [.py (.list xs)], Q => Q (.py (.int xs.length))
  | [.py (.tuple xs)], Q => Q (.py (.int xs.length))
  | [.py (.str z)], Q => z.length ≤ sizeLine ∧ Q (.py (.int z.length))
  | [.py (.dict xs)], Q => Q (.py (.int xs.length))
  | _, _ => False
def rLen (K : PySem.W.Frag) : List V → Hp → VK → Prop := fun xs H Q => (fun xs H Q => ∃ x n, xs = [x] ∧ LenV K x H n ∧ Q (.int n) H) xs H Q ∨ (fun xs H Q => ∃ a kvs, xs = [V.ref a] ∧ H a = some (.dK kvs) ∧ Q (.int kvs.length) H) xs H Q
theorem rd_len : CalD b (RE b) (rLen X.K) gLen := by
  intro Z H vs ds Q Qd gd rx h k
  match ds, h, rx with
  | [.py (.list xs)], h, rx =>
    obtain ⟨x, rfl, r⟩ := rx.one
    obtain ⟨a, us, rfl, ha, qa⟩ := r.list
    exact .inl ⟨_, us.length, rfl, .inl ⟨us, SqL.of ha, rfl⟩, k _ H (.py (.int us.length)) Ex.refl gd.g (.int _) (by rw [qa.length]; exact h)⟩
  | [.py (.tuple xs)], h, rx =>
    obtain ⟨x, rfl, r⟩ := rx.one
    obtain ⟨a, oa, us, rfl, ha, da, na, qa⟩ := r.tuple
    exact .inl ⟨_, us.length, rfl, .inr ⟨us, SqT.th ha, rfl⟩, k _ H (.py (.int us.length)) Ex.refl gd.g (.int _) (by rw [qa.length]; exact h)⟩
  | [.py (.str z)], ⟨hl, h⟩, rx =>
    obtain ⟨x, rfl, r⟩ := rx.one
    exact .inl ⟨_, z.length, rfl, (by rw [r.str]; exact ⟨hl, rfl⟩), k _ H (.py (.int z.length)) Ex.refl gd.g (.int _) h⟩
  | [.py (.dict xs)], h, rx =>
    obtain ⟨x, rfl, r⟩ := rx.one
    obtain ⟨a, us, rfl, ha, qa⟩ := r.dict
    exact .inr ⟨a, us, rfl, ha, k _ H (.py (.int us.length)) Ex.refl gd.g (.int _) (by rw [qa.length]; exact h)⟩
theorem ve_len (hg : Gl X "len") (hm : X.mg "len" = none) (ha : VXs X b W [e] u) (he : starEach [e] X.env = (false, eval e X.env) :: starEach [] X.env := by rfl) (hpl : (backTo pos (starEach [] X.env)).any (·.1) = false := by rfl) :
    VE X b W (.Call (.Name "len" p) [e] [] pos) (vCal gLen u) := ve_callB (CallR.or call_len call_lenD) rd_len hg hm PySem.boot_len ha (by decide) (by decide) he hpl

@[simp] def gAbs : List D → (D → Prop) → Prop
  | [.py (.int i)], Q => Q (.py (.int (if i < 0 then -i else i)))
  | _, _ => False
theorem rd_abs : CalD b (RE b) (fun xs H Q => ∃ i, xs = [.int i] ∧ Q (.int (if i < 0 then -i else i)) H) gAbs := by
  intro Z H vs ds Q Qd gd rx h k
  match ds, h, rx with
  | [.py (.int i)], h, rx =>
    obtain ⟨x, rfl, r⟩ := rx.one
    exact ⟨i, by rw [r.int], k _ H (.py (.int _)) Ex.refl gd.g (.int _) h⟩
@[simp] def gInt : List D → (D → Prop) → Prop
  | [.py (.int i)], Q => Q (.py (.int i))
  | [.py (.bool k)], Q => Q (.py (.int (if k then 1 else 0)))
  | [.py (.str z)], Q => ∃ n, intText? z = some n ∧ z.length ≤ 640 ∧ Q (.py (.int n))
  | _, _ => False
theorem rd_int : CalD b (RE b) (fun xs H Q => (fun xs H Q => (∃ i, xs = [.int i] ∧ Q (.int i) H) ∨ ∃ k, xs = [.bl k] ∧ Q (.int (if k then 1 else 0)) H) xs H Q ∨ (fun xs H Q => ∃ a n, xs = [.str a] ∧ PySem.intText? a = some n ∧ a.length ≤ 640 ∧ Q (.int n) H) xs H Q) gInt := by
  intro Z H vs ds Q Qd gd rx h k
  match ds, h, rx with
  | [.py (.int i)], h, rx =>
    obtain ⟨x, rfl, r⟩ := rx.one
    exact .inl (.inl ⟨i, by rw [r.int], k _ H (.py (.int i)) Ex.refl gd.g (.int i) h⟩)
  | [.py (.bool i)], h, rx =>
    obtain ⟨x, rfl, r⟩ := rx.one
    exact .inl (.inr ⟨i, by rw [r.bool], k _ H (.py (.int _)) Ex.refl gd.g (.int _) h⟩)
  | [.py (.str z)], ⟨n, h1, h2, h⟩, rx =>
    obtain ⟨x, rfl, r⟩ := rx.one
    exact .inr ⟨z, n, by rw [r.str], h1, h2, k _ H (.py (.int n)) Ex.refl gd.g (.int n) h⟩
@[simp] def gStr : List D → (D → Prop) → Prop
  | [.py (.int i)], Q => i.natAbs.log2 < 1920 ∧ Q (.py (.str (toString i)))
  | [.py (.str z)], Q => Q (.py (.str z))
  | _, _ => False
theorem rd_str : CalD b (RE b) (fun xs H Q => (fun xs H Q => ∃ i, xs = [.int i] ∧ i.natAbs.log2 < 1920 ∧ Q (.str (toString i)) H) xs H Q ∨ (fun xs H Q => ∃ a, xs = [.str a] ∧ Q (.str a) H) xs H Q) gStr := by
  intro Z H vs ds Q Qd gd rx h k
  match ds, h, rx with
  | [.py (.int i)], ⟨hl, h⟩, rx =>
    obtain ⟨x, rfl, r⟩ := rx.one
    exact .inl ⟨i, by rw [r.int], hl, k _ H (.py (.str _)) Ex.refl gd.g (.str _) h⟩
  | [.py (.str z)], h, rx =>
    obtain ⟨x, rfl, r⟩ := rx.one
    exact .inr ⟨z, by rw [r.str], k _ H (.py (.str z)) Ex.refl gd.g (.str z) h⟩
@[simp] def gBool : List D → (D → Prop) → Prop
  | [.py (.int i)], Q => Q (.py (.bool (i != 0)))
  | [.py (.bool k)], Q => Q (.py (.bool k))
  | _, _ => False
theorem rd_bool : CalD b (RE b) (fun xs H Q => (∃ i, xs = [.int i] ∧ Q (.bl (i != 0)) H) ∨ ∃ k, xs = [.bl k] ∧ Q (.bl k) H) gBool := by
  intro Z H vs ds Q Qd gd rx h k
  match ds, h, rx with
  | [.py (.int i)], h, rx =>
    obtain ⟨x, rfl, r⟩ := rx.one
    exact .inl ⟨i, by rw [r.int], k _ H (.py (.bool _)) Ex.refl gd.g (.bl _) h⟩
  | [.py (.bool z)], h, rx =>
    obtain ⟨x, rfl, r⟩ := rx.one
    exact .inr ⟨z, by rw [r.bool], k _ H (.py (.bool z)) Ex.refl gd.g (.bl z) h⟩
@[simp] def gTuple : List D → (D → Prop) → Prop
  | [.py (.list xs)], Q => Q (.py (.tuple xs))
  | [.py (.tuple xs)], Q => Q (.py (.tuple xs))
  | _, _ => False
theorem rd_tuple {K : PySem.W.Frag} : CalD b (RE b) (rTupOf K) gTuple := by
  intro Z H vs ds Q Qd gd rx h k
  match ds, h, rx with
  | [.py (.list xs)], h, rx =>
    obtain ⟨x, rfl, r⟩ := rx.one
    obtain ⟨a, us, rfl, ha, qa⟩ := r.list
    exact ⟨a, us, rfl, .inl ⟨SqL.of ha, fun p o hp ho => k _ _ (.py (.tuple xs)) (Ex.new hp) (gd.new hp) (.tup upd_same ho (gd.fresh hp) (qa.up hp)) h⟩⟩
  | [.py (.tuple xs)], h, rx =>
    obtain ⟨x, rfl, r⟩ := rx.one
    obtain ⟨a, oa, us, rfl, ha, da, na, qa⟩ := r.tuple
    exact ⟨a, us, rfl, .inr ⟨SqT.th ha, k _ H (.py (.tuple xs)) Ex.refl gd.g (.tup ha da na qa) h⟩⟩
@[simp] def gList : List D → (D → Prop) → Prop
  | [.py (.list xs)], Q => Q (.py (.list xs))
  | [.py (.tuple xs)], Q => Q (.py (.list xs))
  | _, _ => False
theorem rd_list {K : PySem.W.Frag} : CalD b (RN b) (fun xs H Q => ∃ p ys, xs = [.ref p] ∧ (SqL K H p ys ∨ SqT K H p ys) ∧ ∀ l, H l = none → Q (.ref l) (upd H l (.lst ys))) gList := by
  intro Z H vs ds Q Qd gd rx h k
  match ds, h, rx with
  | [.py (.list xs)], h, rx =>
    obtain ⟨x, rfl, r⟩ := rx.one
    obtain ⟨a, us, rfl, ha, qa⟩ := r.list
    exact ⟨a, us, rfl, .inl (SqL.of ha), fun p hp => k _ _ (.py (.list xs)) (Ex.new hp) (gd.new hp) ⟨p, rfl, hp, us, upd_same, qa.up' hp⟩ h⟩
  | [.py (.tuple xs)], h, rx =>
    obtain ⟨x, rfl, r⟩ := rx.one
    obtain ⟨a, oa, us, rfl, ha, da, na, qa⟩ := r.tuple
    exact ⟨a, us, rfl, .inr (SqT.th ha), fun p hp => k _ _ (.py (.list xs)) (Ex.new hp) (gd.new hp) ⟨p, rfl, hp, us, upd_same, qa.up' hp⟩ h⟩
def allB : List PyData → Option (List Bool)
  | [] => some []
  | .bool k :: r => (allB r).map (k :: ·)
  | _ :: _ => none
def allI : List PyData → Option (List Int)
  | [] => some []
  | .int k :: r => (allI r).map (k :: ·)
  | _ :: _ => none
def allS : List PyData → Option (List Str)
  | [] => some []
  | .str k :: r => (allS r).map (k :: ·)
  | _ :: _ => none
theorem allB_map (l : List Bool) : allB (l.map PyData.bool) = some l := by
  induction l with
  | nil => rfl
  | cons a l ih => simp [allB, ih]
theorem allI_map (l : List Int) : allI (l.map PyData.int) = some l := by
  induction l with
  | nil => rfl
  | cons a l ih => simp [allI, ih]
theorem allS_map (l : List Str) : allS (l.map PyData.str) = some l := by
  induction l with
  | nil => rfl
  | cons a l ih => simp [allS, ih]
theorem allB_of : ∀ {l : List PyData} {bs : List Bool}, allB l = some bs → l = bs.map PyData.bool
  | [], _, h => by cases h; rfl
  | .bool k :: r, bs, h => by
    cases e : allB r with
    | none => rw [allB, e] at h; cases h
    | some q => rw [allB, e] at h; cases h; rw [List.map_cons, ← allB_of e]
  | .none :: _, _, h | .int _ :: _, _, h | .str _ :: _, _, h | .list _ :: _, _, h | .tuple _ :: _, _, h | .dict _ :: _, _, h => by cases h
theorem allI_of : ∀ {l : List PyData} {bs : List Int}, allI l = some bs → l = bs.map PyData.int
  | [], _, h => by cases h; rfl
  | .int k :: r, bs, h => by
    cases e : allI r with
    | none => rw [allI, e] at h; cases h
    | some q => rw [allI, e] at h; cases h; rw [List.map_cons, ← allI_of e]
  | .none :: _, _, h | .bool _ :: _, _, h | .str _ :: _, _, h | .list _ :: _, _, h | .tuple _ :: _, _, h | .dict _ :: _, _, h => by cases h
theorem allS_of : ∀ {l : List PyData} {bs : List Str}, allS l = some bs → l = bs.map PyData.str
  | [], _, h => by cases h; rfl
  | .str k :: r, bs, h => by
    cases e : allS r with
    | none => rw [allS, e] at h; cases h
    | some q => rw [allS, e] at h; cases h; rw [List.map_cons, ← allS_of e]
  | .none :: _, _, h | .bool _ :: _, _, h | .int _ :: _, _, h | .list _ :: _, _, h | .tuple _ :: _, _, h | .dict _ :: _, _, h => by cases h
@[simp] def gSum : List D → (D → Prop) → Prop
  | [.py (.list xs)], Q => ∃ ns, allI xs = some ns ∧ Q (.py (.int ns.sum))
  | _, _ => False
theorem rd_sum {K : PySem.W.Frag} : CalD b (RE b) (rSum K) gSum := by
  intro Z H vs ds Q Qd gd rx h k
  match ds, h, rx with
  | [.py (.list xs)], ⟨ns, e, h⟩, rx =>
    obtain ⟨x, rfl, r⟩ := rx.one
    obtain ⟨a, us, rfl, ha, qa⟩ := r.list
    rw [allI_of e] at qa
    rw [qa.ints] at ha
    exact ⟨a, ns, rfl, SqL.of ha, k _ H (.py (.int _)) Ex.refl gd.g (.int _) h⟩
@[simp] def gAll : List D → (D → Prop) → Prop
  | [.py (.list xs)], Q => ∃ ns, allB xs = some ns ∧ Q (.py (.bool (ns.all fun k => k)))
  | _, _ => False
@[simp] def gAny : List D → (D → Prop) → Prop
  | [.py (.list xs)], Q => ∃ ns, allB xs = some ns ∧ Q (.py (.bool (ns.any fun k => k)))
  | _, _ => False
theorem rd_all {K : PySem.W.Frag} : CalD b (RE b) (rAll K) gAll := by
  intro Z H vs ds Q Qd gd rx h k
  match ds, h, rx with
  | [.py (.list xs)], ⟨ns, e, h⟩, rx =>
    obtain ⟨x, rfl, r⟩ := rx.one
    obtain ⟨a, us, rfl, ha, qa⟩ := r.list
    rw [allB_of e] at qa
    rw [qa.bools] at ha
    exact ⟨a, ns, rfl, SqL.of ha, k _ H (.py (.bool _)) Ex.refl gd.g (.bl _) h⟩
theorem rd_any {K : PySem.W.Frag} : CalD b (RE b) (rAny K) gAny := by
  intro Z H vs ds Q Qd gd rx h k
  match ds, h, rx with
  | [.py (.list xs)], ⟨ns, e, h⟩, rx =>
    obtain ⟨x, rfl, r⟩ := rx.one
    obtain ⟨a, us, rfl, ha, qa⟩ := r.list
    rw [allB_of e] at qa
    rw [qa.bools] at ha
    exact ⟨a, ns, rfl, SqL.of ha, k _ H (.py (.bool _)) Ex.refl gd.g (.bl _) h⟩
/-- the greatest, the least -/
def maxL : List Int → Int
  | [] => 0
  | [a] => a
  | a :: r => max a (maxL r)
def minL : List Int → Int
  | [] => 0
  | [a] => a
  | a :: r => min a (minL r)
theorem maxL_spec : ∀ (l : List Int), l ≠ [] → maxL l ∈ l ∧ ∀ y, y ∈ l → y ≤ maxL l
  | [], h => absurd rfl h
  | [a], _ => by simp [maxL]
  | a :: c :: r, _ => by
    obtain ⟨h1, h2⟩ := maxL_spec (c :: r) (by simp)
    show max a (maxL (c :: r)) ∈ _ ∧ ∀ y, y ∈ _ → y ≤ max a (maxL (c :: r))
    refine ⟨?_, fun y hy => ?_⟩
    · rcases Int.le_total a (maxL (c :: r)) with h | h
      · rw [Int.max_eq_right h]; exact List.mem_cons_of_mem _ h1
      · rw [Int.max_eq_left h]; exact List.mem_cons_self
    · rcases List.mem_cons.mp hy with rfl | hy
      · exact Int.le_max_left _ _
      · exact Int.le_trans (h2 y hy) (Int.le_max_right _ _)
theorem minL_spec : ∀ (l : List Int), l ≠ [] → minL l ∈ l ∧ ∀ y, y ∈ l → minL l ≤ y
  | [], h => absurd rfl h
  | [a], _ => by simp [minL]
  | a :: c :: r, _ => by
    obtain ⟨h1, h2⟩ := minL_spec (c :: r) (by simp)
    show min a (minL (c :: r)) ∈ _ ∧ ∀ y, y ∈ _ → min a (minL (c :: r)) ≤ y
    refine ⟨?_, fun y hy => ?_⟩
    · rcases Int.le_total a (minL (c :: r)) with h | h
      · rw [Int.min_eq_left h]; exact List.mem_cons_self
      · rw [Int.min_eq_right h]; exact List.mem_cons_of_mem _ h1
    · rcases List.mem_cons.mp hy with rfl | hy
      · exact Int.min_le_left _ _
      · exact Int.le_trans (Int.min_le_right _ _) (h2 y hy)
@[simp] def gMax : List D → (D → Prop) → Prop
  | [.py (.list xs)], Q => ∃ ns, allI xs = some ns ∧ ns ≠ [] ∧ Q (.py (.int (maxL ns)))
  | [.py (.int i), .py (.int j)], Q => Q (.py (.int (max i j)))
  | _, _ => False
@[simp] def gMin : List D → (D → Prop) → Prop
  | [.py (.list xs)], Q => ∃ ns, allI xs = some ns ∧ ns ≠ [] ∧ Q (.py (.int (minL ns)))
  | [.py (.int i), .py (.int j)], Q => Q (.py (.int (min i j)))
  | _, _ => False
theorem rd_max {K : PySem.W.Frag} : CalD b (RE b) (fun xs H Q => (fun xs H Q => ∃ i j, xs = [.int i, .int j] ∧ Q (.int (if j > i then j else i)) H) xs H Q ∨ rMax K xs H Q) gMax := by
  intro Z H vs ds Q Qd gd rx h k
  match ds, h, rx with
  | [.py (.list xs)], ⟨ns, e, hne, h⟩, rx =>
    obtain ⟨x, rfl, r⟩ := rx.one
    obtain ⟨a, us, rfl, ha, qa⟩ := r.list
    rw [allI_of e] at qa
    rw [qa.ints] at ha
    refine .inr ⟨a, ns, rfl, SqL.of ha, List.length_pos_iff.mpr hne, fun m hm hl => ?_⟩
    obtain ⟨h1, h2⟩ := maxL_spec ns hne
    have e : m = maxL ns := Int.le_antisymm (h2 m hm) (hl _ h1)
    rw [e]
    exact k _ H (.py (.int _)) Ex.refl gd.g (.int _) h
  | [.py (.int i), .py (.int j)], h, rx =>
    obtain ⟨x, y, rfl, r1, r2⟩ := rx.two
    refine .inl ⟨i, j, by rw [r1.int, r2.int], ?_⟩
    have e : (if j > i then j else i) = max i j := by split <;> omega
    rw [e]
    exact k _ H (.py (.int _)) Ex.refl gd.g (.int _) h
theorem rd_min {K : PySem.W.Frag} : CalD b (RE b) (fun xs H Q => (fun xs H Q => ∃ i j, xs = [.int i, .int j] ∧ Q (.int (if j < i then j else i)) H) xs H Q ∨ rMin K xs H Q) gMin := by
  intro Z H vs ds Q Qd gd rx h k
  match ds, h, rx with
  | [.py (.list xs)], ⟨ns, e, hne, h⟩, rx =>
    obtain ⟨x, rfl, r⟩ := rx.one
    obtain ⟨a, us, rfl, ha, qa⟩ := r.list
    rw [allI_of e] at qa
    rw [qa.ints] at ha
    refine .inr ⟨a, ns, rfl, SqL.of ha, List.length_pos_iff.mpr hne, fun m hm hl => ?_⟩
    obtain ⟨h1, h2⟩ := minL_spec ns hne
    have e : m = minL ns := Int.le_antisymm (hl _ h1) (h2 m hm)
    rw [e]
    exact k _ H (.py (.int _)) Ex.refl gd.g (.int _) h
  | [.py (.int i), .py (.int j)], h, rx =>
    obtain ⟨x, y, rfl, r1, r2⟩ := rx.two
    refine .inl ⟨i, j, by rw [r1.int, r2.int], ?_⟩
    have e : (if j < i then j else i) = min i j := by split <;> omega
    rw [e]
    exact k _ H (.py (.int _)) Ex.refl gd.g (.int _) h

/-! ### isinstance of built-in kinds -/
/-- is data of that built-in class? -/
@[simp] def dInt : PyData → Bool
  | .int _ => true | .bool _ => true | _ => false
@[simp] def dBool : PyData → Bool
  | .bool _ => true | _ => false
@[simp] def dStr : PyData → Bool
  | .str _ => true | _ => false
@[simp] def dTuple : PyData → Bool
  | .tuple _ => true | _ => false
@[simp] def dList : PyData → Bool
  | .list _ => true | _ => false
def isK (T : String) (d : PyData) : Option Bool := if T = "int" then some (dInt d) else if T = "bool" then some (dBool d) else if T = "str" then some (dStr d) else if T = "tuple" then some (dTuple d) else if T = "list" then some (dList d) else none
@[simp] theorem isK_int (d : PyData) : isK "int" d = some (dInt d) := rfl
@[simp] theorem isK_bool (d : PyData) : isK "bool" d = some (dBool d) := rfl
@[simp] theorem isK_str (d : PyData) : isK "str" d = some (dStr d) := rfl
@[simp] theorem isK_tuple (d : PyData) : isK "tuple" d = some (dTuple d) := rfl
@[simp] theorem isK_list (d : PyData) : isK "list" d = some (dList d) := rfl
def tyName : PyData → String
  | .none => "NoneType" | .bool _ => "bool" | .int _ => "int" | .str _ => "str" | .list _ => "list" | .tuple _ => "tuple" | .dict _ => "dict"
theorem isi_int (d : PyData) : kitB (tyName d) "int" = some (dInt d) := by cases d <;> (simp only [tyName, dInt]; decide +kernel)
theorem isi_bool (d : PyData) : kitB (tyName d) "bool" = some (dBool d) := by cases d <;> (simp only [tyName, dBool]; decide +kernel)
theorem isi_str (d : PyData) : kitB (tyName d) "str" = some (dStr d) := by cases d <;> (simp only [tyName, dStr]; decide +kernel)
theorem isi_tuple (d : PyData) : kitB (tyName d) "tuple" = some (dTuple d) := by cases d <;> (simp only [tyName, dTuple]; decide +kernel)
theorem isi_list (d : PyData) : kitB (tyName d) "list" = some (dList d) := by cases d <;> (simp only [tyName, dList]; decide +kernel)
theorem isi_of {T : String} {d : PyData} {c : Bool} (h : isK T d = some c) : kitB (tyName d) T = some c := by
  unfold isK at h
  split at h
  · subst T; rw [isi_int]; exact h
  split at h
  · subst T; rw [isi_bool]; exact h
  split at h
  · subst T; rw [isi_str]; exact h
  split at h
  · subst T; rw [isi_tuple]; exact h
  split at h
  · subst T; rw [isi_list]; exact h
  · cases h
theorem tyx_of {K : PySem.W.Frag} {Z : Addr → Prop} {H : Hp} {v : V} {d : PyData} (r : Rq Z H v d) : TyX K H v (.type (tyName d)) := by
  cases r with
  | non => exact .base .non
  | bl k => exact .base (.bl k)
  | int i => exact .base (.int i)
  | str x => exact .base (.str x)
  | lst e n q => exact .base (.lst e)
  | tup e h n q => exact .fTuple e
  | dct e n q => exact .base (.dK e)
@[simp] def gIsi : List D → (D → Prop) → Prop
  | [.py d, .raw (.ty T)], Q => ∃ k, isK T d = some k ∧ Q (.py (.bool k))
  | _, _ => False
theorem rd_isi {K : PySem.W.Frag} : CalD b (RE b) (rIsi K) gIsi := by
  intro Z H vs ds Q Qd gd rx h k
  match ds, h, rx with
  | [.py d, .raw (.ty T)], ⟨c, e, h⟩, rx =>
    obtain ⟨x, y, rfl, r1, r2⟩ := rx.two
    have ey : y = .ty T := by
      rcases r2 with r | ⟨a, e, _, _, q⟩
      · exact r
      · exact q.elim
    subst ey
    exact ⟨x, .ty T, _, .type T, c, rfl, .ty T, tyx_of r1.q, kit_ty (isi_of e), k _ H (.py (.bool c)) Ex.refl gd.g (.bl c) h⟩
/-- the built-in class as a value -/
theorem ve_ty {T : String} {x : Str} (hg : Gl X x) (hm : X.mg x = none) (hv : bootBuiltins x = some (.type T)) (hn : x ≠ "__name__" := by decide) (hd : (x == ("__debug__" : Str)) = false := by decide) : VE X b W (.Name x pos) (vC (.raw (.ty T))) :=
  ve_raw (pe_bltn hg hm hv rfl hn hd)
end
end VL
set_option Elab.async false
set_option linter.all false
set_option maxRecDepth 100000
set_option maxHeartbeats 4000000
namespace VL
open PySem PySem.Spec PyProof.Rows L2

/-- VOk in a running def: H0 the heap at its entry (or a loop's), M what may have been written since -/
structure FOk (b : Bg) (H0 : Hp) (M Zo Z : Addr → Prop) (σ : L2.St) (H : Hp) (ρ : VEnv) : Prop where
  v : VOk b Zo Z σ H ρ
  ext : ∀ a o, H0 a = some o → ¬ b.B a → ¬ M a → H a = some o
  fr : ∀ (i : Nat) (d : D) (a : Addr), ρ[i]? = some (.own d) → σ[i]? = some (some (.ref a)) → M a ∨ H0 a = none

structure VEnds where
  nx : VEnv → Prop
  rt : D → Prop
  bk : VEnv → Prop
  ct : VEnv → Prop
  ex : VEnv → Er → Prop
abbrev VS := VEnv → VEnds → Prop

/-- what the ends of a reading mean over the heap -/
structure Lk (b : Bg) (W : WX) (H0 : Hp) (M Zo : Addr → Prop) (De : VEnds) (D : Ends) : Prop where
  nx : ∀ Z σ H ρ, FOk b H0 M Zo Z σ H ρ → De.nx ρ → D.nx σ H
  rt : ∀ v H d, (∀ a o, H0 a = some o → ¬ b.B a → ¬ M a → H a = some o) → b.G H → Rp b Zo H v d → De.rt d → D.rt v H
  bk : ∀ Z σ H ρ, FOk b H0 M Zo Z σ H ρ → De.bk ρ → D.bk σ H
  ct : ∀ Z σ H ρ, FOk b H0 M Zo Z σ H ρ → De.ct ρ → D.ct σ H
  ex : ∀ c x Z σ H ρ er, FOk b H0 M Zo Z σ H ρ → ErRp b Z H c x er → De.ex ρ er → W c x σ H
def LS (b : Bg) (W : WX) (t : VS) : TS := fun D σ H => ∃ H0 M Zo Z ρ De, FOk b H0 M Zo Z σ H ρ ∧ t ρ De ∧ Lk b W H0 M Zo De D
def VSt (X : Cx) (b : Bg) (W : WX) (st : Stmt) (t : VS) : Prop := PS X st (LS b W t)
def VSs (X : Cx) (b : Bg) (W : WX) (st : List Stmt) (t : VS) : Prop := PSs X st (LS b W t)

section
variable {b : Bg} {W : WX} {H0 : Hp} {M Zo Z : Addr → Prop} {σ : L2.St} {H H' : Hp} {ρ : VEnv} {De : VEnds} {Dn : Ends}
theorem FOk.ex (f : FOk b H0 M Zo Z σ H ρ) (x : Ex b H H') (g : b.G H') : FOk b H0 M Zo Z σ H' ρ := ⟨f.v.ex x g, fun a o e nb nm => x a o (f.ext a o e nb nm) nb, f.fr⟩
/-- the error link of an expression -/
theorem Lk.er (l : Lk b W H0 M Zo De Dn) (f : FOk b H0 M Zo Z σ H ρ) : ∀ c x H' er, Ex b H H' → b.G H' → ErRp b Z H' c x er → De.ex ρ er → W c x σ H' := fun c x H' er x1 g1 r q => l.ex c x Z σ H' ρ er (f.ex x1 g1) r q

/-- the owned addresses but slot i's -/
def zBut (Zo : Addr → Prop) (σ : L2.St) (ρ : VEnv) (i : Nat) : Addr → Prop := fun a => Zo a ∨ ∃ (j : Nat) (e : D), j ≠ i ∧ ρ[j]? = some (.own e) ∧ σ[j]? = some (some (.ref a))
theorem VOk.but (v : VOk b Zo Z σ H ρ) (i : Nat) : ∀ a, zBut Zo σ ρ i a → Z a := fun a z => by
  rcases z with z | ⟨j, e, _, h1, h2⟩
  · exact v.zo a z
  · obtain ⟨c, h3, h4, _⟩ := v.own j e h1
    rw [h2] at h3; cases h3; exact h4
theorem FOk.set (f : FOk b H0 M Zo Z σ H ρ) {i : Nat} {u : V} {d : D} (hi : i < ρ.length) (r : Rp b Z H u d) : FOk b H0 M Zo (zBut Zo σ ρ i) (σ.set i (some u)) H (ρ.set i (.shr d)) := by
  have v := f.v
  have sub := v.but i
  have hiσ : i < σ.length := by rw [← v.len]; exact hi
  have ow : ∀ {j : Nat} {e : D}, (ρ.set i (.shr d))[j]? = some (.own e) → j ≠ i ∧ ρ[j]? = some (.own e) := fun {j e} h => by
    by_cases hj : j = i
    · subst hj
      rw [List.getElem?_set_self hi] at h; cases h
    · rw [List.getElem?_set_ne (Ne.symm hj)] at h
      exact ⟨hj, h⟩
  refine ⟨⟨v.g, v.zb, fun a z => .inl z, fun a z => v.dom a (sub a z), fun a z => ?_, fun j e h => ?_, fun j k e e2 a h1 h2 h3 h4 => ?_, fun j e h => ?_, by simpa using v.len⟩, f.ext, fun j e a h1 h2 => ?_⟩
  · rcases z with z | ⟨j, e, hj, h1, h2⟩
    · exact .inl z
    · exact .inr ⟨j, e, by rw [List.getElem?_set_ne (Ne.symm hj)]; exact h1, by rw [List.getElem?_set_ne (Ne.symm hj)]; exact h2⟩
  · obtain ⟨hj, h⟩ := ow h
    obtain ⟨a, h1, h2, h3, h4⟩ := v.own j e h
    exact ⟨a, by rw [List.getElem?_set_ne (Ne.symm hj)]; exact h1, .inr ⟨j, e, hj, h, h1⟩, h3, h4.mono (fun c z => .inl (sub c z)) (fun _ _ e _ => e) fun _ e => e⟩
  · obtain ⟨hj, h1⟩ := ow h1
    obtain ⟨hk, h2⟩ := ow h2
    rw [List.getElem?_set_ne (Ne.symm hj)] at h3
    rw [List.getElem?_set_ne (Ne.symm hk)] at h4
    exact v.inj j k e e2 a h1 h2 h3 h4
  · by_cases hj : j = i
    · subst hj
      rw [List.getElem?_set_self hi] at h; cases h
      exact ⟨u, List.getElem?_set_self hiσ, r.mono (fun c z => .inl (sub c z)) fun _ _ e _ => e⟩
    · rw [List.getElem?_set_ne (Ne.symm hj)] at h
      obtain ⟨w, h1, h2⟩ := v.shr j e h
      exact ⟨w, by rw [List.getElem?_set_ne (Ne.symm hj)]; exact h1, h2.mono (fun c z => .inl (sub c z)) fun _ _ e _ => e⟩
  · obtain ⟨hj, h1⟩ := ow h1
    rw [List.getElem?_set_ne (Ne.symm hj)] at h2
    exact f.fr j e a h1 h2
/-- a new object given to slot i -/
theorem FOk.setN (f : FOk b H0 M Zo Z σ H ρ) {i : Nat} {u : V} {d : D} (hi : i < ρ.length) (x : Ex b H H') (g : b.G H') (r : Rn b Z H H' u d) : ∃ Z', FOk b H0 M Zo Z' (σ.set i (some u)) H' (ρ.set i (.own d)) := by
  obtain ⟨a, rfl, hn, o⟩ := r
  have v := f.v
  have v' := v.ex x g
  have sub := v.but i
  have nz : ¬ Z a := v.fresh hn
  have hiσ : i < σ.length := by rw [← v.len]; exact hi
  have hz : ∀ c, (zBut Zo σ ρ i c ∨ c = a) → Z c ∨ H c = none := fun c z => z.elim (fun z => .inl (sub c z)) fun e => .inr (by rw [e]; exact hn)
  have ow : ∀ {j : Nat} {e : D}, (ρ.set i (.own d))[j]? = some (.own e) → (j = i ∧ e = d) ∨ (j ≠ i ∧ ρ[j]? = some (.own e)) := fun {j e} h => by
    by_cases hj : j = i
    · subst hj
      rw [List.getElem?_set_self hi] at h; cases h; exact .inl ⟨rfl, rfl⟩
    · rw [List.getElem?_set_ne (Ne.symm hj)] at h
      exact .inr ⟨hj, h⟩
  have na : ∀ (j : Nat) (e : D) (c : Addr), ρ[j]? = some (.own e) → σ[j]? = some (some (.ref c)) → c ≠ a := fun j e c h1 h2 q => by
    obtain ⟨c', h3, h4, _⟩ := v.own j e h1
    rw [h2] at h3; cases h3; rw [q] at h4; exact nz h4
  refine ⟨fun c => zBut Zo σ ρ i c ∨ c = a, ⟨g, v.zb, fun c z => .inl (.inl z), fun c z => ?_, fun c z => ?_, fun j e h => ?_, fun j k e e2 c h1 h2 h3 h4 => ?_, fun j e h => ?_, by simpa using v.len⟩, fun c o e nb nm => x c o (f.ext c o e nb nm) nb, fun j e c h1 h2 => ?_⟩
  · rcases z with z | rfl
    · exact v'.dom c (sub c z)
    · obtain ⟨o', e⟩ := o.at
      rw [e]; simp
  · rcases z with (z | ⟨j, e, hj, h1, h2⟩) | rfl
    · exact .inl z
    · exact .inr ⟨j, e, by rw [List.getElem?_set_ne (Ne.symm hj)]; exact h1, by rw [List.getElem?_set_ne (Ne.symm hj)]; exact h2⟩
    · exact .inr ⟨i, d, List.getElem?_set_self hi, List.getElem?_set_self hiσ⟩
  · rcases ow h with ⟨rfl, rfl⟩ | ⟨hj, h⟩
    · exact ⟨a, List.getElem?_set_self hiσ, .inr rfl, fun z => nz (v.zo _ z), o.mono (fun c z => .inl (z.imp (sub c) id)) (fun _ _ e _ => e) fun _ e => e⟩
    · obtain ⟨c, h1, h2, h3, h4⟩ := v.own j e h
      exact ⟨c, by rw [List.getElem?_set_ne (Ne.symm hj)]; exact h1, .inl (.inr ⟨j, e, hj, h, h1⟩), h3, h4.mono hz (v.keep x) fun o q => x c o q fun z => h3 (v.zb c z)⟩
  · rcases ow h1 with ⟨q1, _⟩ | ⟨hj, p1⟩
    · rcases ow h2 with ⟨q2, _⟩ | ⟨hk, p2⟩
      · rw [q1, q2]
      · rw [q1, List.getElem?_set_self hiσ] at h3; cases h3
        rw [List.getElem?_set_ne (Ne.symm hk)] at h4
        exact absurd rfl (na k e2 _ p2 h4)
    · rw [List.getElem?_set_ne (Ne.symm hj)] at h3
      rcases ow h2 with ⟨q2, _⟩ | ⟨hk, p2⟩
      · rw [q2, List.getElem?_set_self hiσ] at h4; cases h4
        exact absurd rfl (na j e _ p1 h3)
      · rw [List.getElem?_set_ne (Ne.symm hk)] at h4
        exact v.inj j k e e2 c p1 p2 h3 h4
  · by_cases hj : j = i
    · subst hj
      rw [List.getElem?_set_self hi] at h; cases h
    · rw [List.getElem?_set_ne (Ne.symm hj)] at h
      obtain ⟨w, h1, h2⟩ := v.shr j e h
      exact ⟨w, by rw [List.getElem?_set_ne (Ne.symm hj)]; exact h1, h2.mono hz (v.keep x)⟩
  · rcases ow h1 with ⟨rfl, rfl⟩ | ⟨hj, h1⟩
    · rw [List.getElem?_set_self hiσ] at h2; cases h2
      cases q : H0 a with
      | none => exact .inr rfl
      | some u0 =>
        by_cases hb : b.B a
        · exact absurd hn (b.dom _ _ v.g hb)
        · by_cases hm : M a
          · exact .inl hm
          · have := f.ext a u0 q hb hm
            rw [hn] at this; cases this
    · rw [List.getElem?_set_ne (Ne.symm hj)] at h2
      exact f.fr j e c h1 h2
/-- slot i's object is changed -/
theorem FOk.mut (f : FOk b H0 M Zo Z σ H ρ) {i : Nat} {a : Addr} {d d' : D} {o : HO} (hr : ρ[i]? = some (.own d)) (hs : σ[i]? = some (some (.ref a))) (new : Ow b Z (upd H a o) a d') : FOk b H0 M Zo Z σ (upd H a o) (ρ.set i (.own d')) := by
  have v := f.v
  obtain ⟨c, h1, hz, hzo, how⟩ := v.own i d hr
  rw [hs] at h1; cases h1
  have hi : i < ρ.length := (List.getElem?_eq_some_iff.mp hr).1
  have nb : ¬ b.B a := fun z => hzo (v.zb a z)
  have keep : ∀ c o', H c = some o' → ¬ Z c → upd H a o c = some o' := fun c o' e n => by
    rw [upd_ne (fun q => n (by rw [q]; exact hz))]
    exact e
  have ow : ∀ {j : Nat} {e : D}, (ρ.set i (.own d'))[j]? = some (.own e) → (j = i ∧ e = d') ∨ (j ≠ i ∧ ρ[j]? = some (.own e)) := fun {j e} h => by
    by_cases hj : j = i
    · subst hj
      rw [List.getElem?_set_self hi] at h; cases h; exact .inl ⟨rfl, rfl⟩
    · rw [List.getElem?_set_ne (Ne.symm hj)] at h
      exact .inr ⟨hj, h⟩
  have old : ∀ {j : Nat} {e : D}, (ρ.set i (.own d'))[j]? = some (.own e) → ∃ e', ρ[j]? = some (.own e') := fun {j e} h => by
    rcases ow h with ⟨rfl, rfl⟩ | ⟨_, h⟩
    · exact ⟨d, hr⟩
    · exact ⟨e, h⟩
  refine ⟨⟨b.loc H _ (fun c hc => upd_ne fun q => nb (by rw [← q]; exact hc)) (fun c P e => by rw [upd_ne (fun q => how.noext P (by rw [← q]; exact e))]; exact e) v.g, v.zb, v.zo, fun c z => ?_, fun c z => ?_, fun j e h => ?_, fun j k e e2 c h1 h2 h3 h4 => ?_, fun j e h => ?_, by simpa using v.len⟩, fun c o' e nb' nm => ?_, fun j e c h1 h2 => ?_⟩
  · by_cases q : c = a
    · rw [q, upd_same]; simp
    · rw [upd_ne q]; exact v.dom c z
  · rcases v.zi c z with z | ⟨j, e, h1, h2⟩
    · exact .inl z
    · by_cases hj : j = i
      · subst hj
        exact .inr ⟨j, d', List.getElem?_set_self hi, h2⟩
      · exact .inr ⟨j, e, by rw [List.getElem?_set_ne (Ne.symm hj)]; exact h1, h2⟩
  · rcases ow h with ⟨rfl, rfl⟩ | ⟨hj, h⟩
    · exact ⟨a, hs, hz, hzo, new⟩
    · obtain ⟨c, h1, h2, h3, h4⟩ := v.own j e h
      have hca : c ≠ a := fun q => hj (v.inj j i e d a h hr (by rw [← q]; exact h1) hs)
      exact ⟨c, h1, h2, h3, h4.mono (fun _ z => .inl z) keep fun o' q => by rw [upd_ne hca]; exact q⟩
  · obtain ⟨e', h1⟩ := old h1
    obtain ⟨e2', h2⟩ := old h2
    exact v.inj j k e' e2' c h1 h2 h3 h4
  · by_cases hj : j = i
    · subst hj
      rw [List.getElem?_set_self hi] at h; cases h
    · rw [List.getElem?_set_ne (Ne.symm hj)] at h
      obtain ⟨w, h1, h2⟩ := v.shr j e h
      exact ⟨w, h1, h2.mono (fun _ z => .inl z) keep⟩
  · have h := f.ext c o' e nb' nm
    by_cases q : c = a
    · subst q
      rcases f.fr i d c hr hs with z | z
      · exact absurd z nm
      · rw [z] at e; cases e
    · rw [upd_ne q]; exact h
  · obtain ⟨e', h1⟩ := old h1
    exact f.fr j e' c h1 h2
/-- slot i's object is shared from now on -/
@[simp] def frz (i : Nat) (ρ : VEnv) : VEnv := match ρ[i]? with
  | some (.own d) => ρ.set i (.shr d)
  | _ => ρ
theorem FOk.frz (f : FOk b H0 M Zo Z σ H ρ) (i : Nat) : ∃ Z', FOk b H0 M Zo Z' σ H (VL.frz i ρ) := by
  unfold VL.frz
  cases hr : ρ[i]? with
  | none => exact ⟨Z, f⟩
  | some s =>
    cases s with
    | un => exact ⟨Z, f⟩
    | shr d => exact ⟨Z, f⟩
    | own d =>
      have v := f.v
      obtain ⟨a, hs, hz, hzo, ho⟩ := v.own i d hr
      have hi : i < ρ.length := (List.getElem?_eq_some_iff.mp hr).1
      have sub := v.but i
      have na : ¬ zBut Zo σ ρ i a := fun z => by
        rcases z with z | ⟨j, e, hj, h1, h2⟩
        · exact hzo z
        · exact hj (v.inj j i e d a h1 hr h2 hs)
      have rp : Rp b (zBut Zo σ ρ i) H (.ref a) d := ho.rp sub na
      have eσ : σ.set i (some (.ref a)) = σ := by
        apply List.ext_getElem?
        intro j
        by_cases hj : j = i
        · subst hj
          rw [List.getElem?_set_self (List.getElem?_eq_some_iff.mp hs).1, hs]
        · rw [List.getElem?_set_ne (Ne.symm hj)]
      refine ⟨zBut Zo σ ρ i, ?_⟩
      -- as FOk.set, but the value is no longer owned
      have ow : ∀ {j : Nat} {e : D}, (ρ.set i (.shr d))[j]? = some (.own e) → j ≠ i ∧ ρ[j]? = some (.own e) := fun {j e} h => by
        by_cases hj : j = i
        · subst hj
          rw [List.getElem?_set_self hi] at h; cases h
        · rw [List.getElem?_set_ne (Ne.symm hj)] at h
          exact ⟨hj, h⟩
      refine ⟨⟨v.g, v.zb, fun a z => .inl z, fun a z => v.dom a (sub a z), fun c z => ?_, fun j e h => ?_, fun j k e e2 c h1 h2 h3 h4 => ?_, fun j e h => ?_, by simpa using v.len⟩, f.ext, fun j e c h1 h2 => f.fr j e c (ow h1).2 h2⟩
      · rcases z with z | ⟨j, e, hj, h1, h2⟩
        · exact .inl z
        · exact .inr ⟨j, e, by rw [List.getElem?_set_ne (Ne.symm hj)]; exact h1, h2⟩
      · obtain ⟨hj, h⟩ := ow h
        obtain ⟨c, h1, h2, h3, h4⟩ := v.own j e h
        exact ⟨c, h1, .inr ⟨j, e, hj, h, h1⟩, h3, h4.mono (fun c z => .inl (sub c z)) (fun _ _ e _ => e) fun _ e => e⟩
      · exact v.inj j k e e2 c (ow h1).2 (ow h2).2 h3 h4
      · by_cases hj : j = i
        · subst hj
          rw [List.getElem?_set_self hi] at h; cases h
          exact ⟨.ref a, hs, rp⟩
        · rw [List.getElem?_set_ne (Ne.symm hj)] at h
          obtain ⟨w, h1, h2⟩ := v.shr j e h
          exact ⟨w, h1, h2.mono (fun c z => .inl (sub c z)) fun _ _ e _ => e⟩
/-- a value that may leave -/
theorem FOk.out (f : FOk b H0 M Zo Z σ H ρ) {u : V} {d : D} (r : Rp b Z H u d) : Rp b Zo H u d := r.mono (fun c z => .inl (f.v.zo c z)) fun _ _ e _ => e
end

/-! ### statements -/
section
variable {X : Cx} {b : Bg} {W : WX} {e e1 e2 : Expr} {st : Stmt} {sts : List Stmt} {t t1 t2 : VT} {u : VA} {g h : VS} {pos pos' : Pos} {i : Nat} {x : Str}
@[simp] def sNext : VS := fun ρ De => De.nx ρ
@[simp] def sSeq (g h : VS) : VS := fun ρ De => g ρ { De with nx := fun ρ' => h ρ' De }
theorem vs_nil : VSs X b W [] sNext := pss_mono pss_nil fun D σ H ⟨H0, M, Zo, Z, ρ, De, f, q, l⟩ => l.nx Z σ H ρ f q
theorem vs_cons (h1 : VSt X b W st g) (h2 : VSs X b W sts h) : VSs X b W (st :: sts) (sSeq g h) :=
  pss_mono (pss_cons h1 h2) fun D σ H ⟨H0, M, Zo, Z, ρ, De, f, q, l⟩ => ⟨H0, M, Zo, Z, ρ, _, f, q, ⟨fun Z' σ' H' ρ' f' q' => ⟨H0, M, Zo, Z', ρ', De, f', q', l⟩, l.rt, l.bk, l.ct, l.ex⟩⟩
theorem vs_one (h1 : VSt X b W st g) : VSs X b W [st] g := pss_mono (pss_one h1) fun _ _ _ q => q
/-- from here on slot i's object may be shared -/
@[simp] def sFrz (i : Nat) (g : VS) : VS := fun ρ De => g (frz i ρ) De
theorem vs_frz (i : Nat) (h : VSt X b W st g) : VSt X b W st (sFrz i g) := ps_mono h fun D σ H ⟨H0, M, Zo, Z, ρ, De, f, q, l⟩ => by
  obtain ⟨Z', f'⟩ := f.frz i
  exact ⟨H0, M, Zo, Z', _, De, f', q, l⟩
theorem vs_pass : VSt X b W (.Pass pos) sNext := ps_mono ps_pass fun D σ H ⟨H0, M, Zo, Z, ρ, De, f, q, l⟩ => l.nx Z σ H ρ f q
@[simp] def sBrk : VS := fun ρ De => De.bk ρ
@[simp] def sCnt : VS := fun ρ De => De.ct ρ
theorem vs_break : VSt X b W (.Break pos) sBrk := ps_mono ps_break fun D σ H ⟨H0, M, Zo, Z, ρ, De, f, q, l⟩ => l.bk Z σ H ρ f q
theorem vs_continue : VSt X b W (.Continue pos) sCnt := ps_mono ps_continue fun D σ H ⟨H0, M, Zo, Z, ρ, De, f, q, l⟩ => l.ct Z σ H ρ f q
/-- name = value -/
@[simp] def sSet (i : Nat) (t : VT) : VS := fun ρ De => i < ρ.length ∧ t ρ (fun d => De.nx (ρ.set i (.shr d))) (De.ex ρ)
@[simp] def sSetN (i : Nat) (t : VT) : VS := fun ρ De => i < ρ.length ∧ t ρ (fun d => De.nx (ρ.set i (.own d))) (De.ex ρ)
theorem vs_set {te : TE} (hp : PS X (.Assign [.Name x pos'] e pos) (tAsg te (gName i))) (hm : ∀ σ H Q, LE b W (RE b) t σ H Q → te σ H Q) : VSt X b W (.Assign [.Name x pos'] e pos) (sSet i t) :=
  ps_mono hp fun D σ H ⟨H0, M, Zo, Z, ρ, De, f, ⟨hi, q⟩, l⟩ => hm σ H _ ⟨Zo, Z, ρ, _, _, f.v, q, fun v H' d x g r q' => l.nx _ _ H' _ ((f.ex x g).set hi r) q', l.er f⟩
theorem vs_setN {te : TE} (hp : PS X (.Assign [.Name x pos'] e pos) (tAsg te (gName i))) (hm : ∀ σ H Q, LE b W (RN b) t σ H Q → te σ H Q) : VSt X b W (.Assign [.Name x pos'] e pos) (sSetN i t) :=
  ps_mono hp fun D σ H ⟨H0, M, Zo, Z, ρ, De, f, ⟨hi, q⟩, l⟩ => hm σ H _ ⟨Zo, Z, ρ, _, _, f.v, q, fun v H' d x g r q' => by
    obtain ⟨Z', f'⟩ := f.setN hi x g r
    exact l.nx _ _ H' _ f' q', l.er f⟩
theorem vs_asg (hN : X.N.Nodup) (hi : X.N[i]? = some x) (hx : Loc X.env.scope x) (he : VE X b W e t) (hs : swapsWith e (some (.Name x pos')) pos.line X.env = pure false := by rfl)
    (hf : X.fn x = true ∨ X.env.scope.names.lookup x = some .local := by first | exact .inl rfl | exact .inr rfl | assumption) : VSt X b W (.Assign [.Name x pos'] e pos) (sSet i t) :=
  vs_set (ps_set hN hi hx he hs hf) fun _ _ _ q => q
theorem vs_asgN (hN : X.N.Nodup) (hi : X.N[i]? = some x) (hx : Loc X.env.scope x) (he : VN X b W e t) (hs : swapsWith e (some (.Name x pos')) pos.line X.env = pure false := by rfl)
    (hf : X.fn x = true ∨ X.env.scope.names.lookup x = some .local := by first | exact .inl rfl | exact .inr rfl | assumption) : VSt X b W (.Assign [.Name x pos'] e pos) (sSetN i t) :=
  vs_setN (ps_set hN hi hx he hs hf) fun _ _ _ q => q
@[simp] def sExpr (t : VT) : VS := fun ρ De => t ρ (fun _ => De.nx ρ) (De.ex ρ)
theorem vs_expr (he : VE X b W e t) (hs : swapsWith e none pos.line X.env = pure false := by rfl) : VSt X b W (.Expr e pos) (sExpr t) :=
  ps_mono (ps_expr he hs) fun D σ H ⟨H0, M, Zo, Z, ρ, De, f, q, l⟩ => ⟨Zo, Z, ρ, _, _, f.v, q, fun v H' d x g r q' => l.nx _ _ H' _ (f.ex x g) q', l.er f⟩
@[simp] def sRet (t : VT) : VS := fun ρ De => t ρ De.rt (De.ex ρ)
theorem vs_ret (he : VE X b W e t) : VSt X b W (.Return (some e) pos) (sRet t) :=
  ps_mono (ps_ret he) fun D σ H ⟨H0, M, Zo, Z, ρ, De, f, q, l⟩ => ⟨Zo, Z, ρ, _, _, f.v, q, fun v H' d x g r q' => l.rt v H' d (f.ex x g).ext g ((f.ex x g).out r) q', l.er f⟩
@[simp] def sRetN : VS := fun _ De => De.rt (.py .none)
theorem vs_retN : VSt X b W (.Return none pos) sRetN := ps_mono ps_retN fun D σ H ⟨H0, M, Zo, Z, ρ, De, f, q, l⟩ => l.rt _ H (.py .none) f.ext f.v.g .non q
@[simp] def sIf (c : VB) (g h : VS) : VS := fun ρ De => c ρ (fun k => if k = true then g ρ De else h ρ De) (De.ex ρ)
theorem vs_if {c : Expr} {tc : VB} {xs ys : List Stmt} (hc : VTe X b W c tc) (h1 : VSs X b W xs g) (h2 : VSs X b W ys h) : VSt X b W (.If c xs ys pos) (sIf tc g h) :=
  ps_mono (ps_if hc h1 h2) fun D σ H ⟨H0, M, Zo, Z, ρ, De, f, q, l⟩ => ⟨Zo, Z, ρ, _, _, f.v, q, fun k H' x g q' => by
    cases k with
    | true => exact ⟨H0, M, Zo, Z, ρ, De, f.ex x g, q', l⟩
    | false => exact ⟨H0, M, Zo, Z, ρ, De, f.ex x g, q', l⟩, l.er f⟩
/-- name op= value -/
@[simp] def sAug (i : Nat) (g : D → D → (D → Prop) → Prop) (t : VT) : VS := fun ρ De => ∃ d, ρ[i]? = some (.shr d) ∧ t ρ (fun y => g d y fun z => De.nx (ρ.set i (.shr z))) (De.ex ρ)
theorem vs_aug {op : Operator} {r : R2} {gg : D → D → (D → Prop) → Prop} (hN : X.N.Nodup) (hi : X.N[i]? = some x) (hx : Loc X.env.scope x) (he : VE X b W e t) (ho : OpR X (inplaceOp op) r) (hd : OpD b (RE b) r gg)
    (hf : X.fn x = true ∨ X.env.scope.names.lookup x = some .local := by first | exact .inl rfl | exact .inr rfl | assumption) : VSt X b W (.AugAssign (.Name x pos') op e pos) (sAug i gg t) :=
  ps_mono (ps_aug (ti := r) hN hi hx he ho hf) fun D σ H ⟨H0, M, Zo, Z, ρ, De, f, ⟨d, e1, q⟩, l⟩ => by
    obtain ⟨v, h1, h2⟩ := f.v.shr i d e1
    have hl : i < ρ.length := (List.getElem?_eq_some_iff.mp e1).1
    refine ⟨v, h1, Zo, Z, ρ, _, _, f.v, q, fun w H' d2 x g r2 q' => ?_, l.er f⟩
    have f' := f.ex x g
    refine hd Z H' v w d d2 _ _ f'.v.gd (.inl (f.v.rp x h2)) (.inl r2) q' fun w3 H3 d3 x3 g3 r3 q3 => ?_
    exact l.nx _ _ H3 _ ((f'.ex x3 g3).set hl r3) q3

/-! ### loops -/
/-- what an iterator gives: the items, one a turn, while what stood at H outside of Y stands -/
structure Wk (b : Bg) (Y Z : Addr → Prop) (H : Hp) (J : It) (ds : List D) : Prop where
  go : ∀ (k : Nat) (d : D) (H2 : Hp), ds[k]? = some d → (∀ a o, H a = some o → ¬ Y a → H2 a = some o) → b.G H2 → J.go k H2 ∧ ∀ v H3, J.yld k H2 v H3 → Ex b H2 H3 ∧ b.G H3 ∧ ∀ Z2 : Addr → Prop, (∀ a, Z2 a → Z a ∨ H a = none) → (∀ a, Z2 a → H2 a ≠ none) → Rp b Z2 H3 v d
  stop : ∀ (k : Nat) (H2 : Hp), ds.length = k → (∀ a o, H a = some o → ¬ Y a → H2 a = some o) → J.stop k H2
abbrev VIt := VEnv → (List D → Prop) → (Er → Prop) → Prop
def LI (b : Bg) (W : WX) (Y : (Addr → Prop) → Addr → Prop) (t : VIt) : TI := fun σ H R => ∃ Zo Z ρ Qd Ed, VOk b Zo Z σ H ρ ∧ t ρ Qd Ed ∧
  (∀ J H' ds, Ex b H H' → b.G H' → Wk b (Y Z) Z H' J ds → Qd ds → R J H') ∧ ∀ c x H' er, Ex b H H' → b.G H' → ErRp b Z H' c x er → Ed er → W c x σ H'
/-- for a loop: what is owned may change; for a block: nothing but the zone -/
def VI (X : Cx) (b : Bg) (W : WX) (tg iter : Expr) (t : VIt) : Prop := PI X tg iter (LI b W (fun Z => Z) t)
def VIb (X : Cx) (b : Bg) (W : WX) (tg iter : Expr) (t : VIt) : Prop := PI X tg iter (LI b W (fun _ => b.B) t)
/-- a target -/
abbrev VTg := D → VEnv → (VEnv → Prop) → Prop
abbrev VTgs := List D → VEnv → (VEnv → Prop) → Prop
/-- the slots but those at js are as they were -/
structure Same (js : List Nat) (σ σ' : L2.St) (ρ ρ' : VEnv) : Prop where
  len : σ'.length = σ.length
  out : ∀ j, j ∉ js → σ'[j]? = σ[j]?
  env : ∀ j, j ∉ js → ρ'[j]? = ρ[j]?
theorem Same.refl {js : List Nat} {σ : L2.St} {ρ : VEnv} : Same js σ σ ρ ρ := ⟨rfl, fun _ _ => rfl, fun _ _ => rfl⟩
theorem Same.trans {js ks : List Nat} {σ σ1 σ2 : L2.St} {ρ ρ1 ρ2 : VEnv} (h : Same js σ σ1 ρ ρ1) (k : Same ks σ1 σ2 ρ1 ρ2) : Same (js ++ ks) σ σ2 ρ ρ2 :=
  ⟨k.len.trans h.len, fun j hj => (k.out j fun m => hj (List.mem_append_right _ m)).trans (h.out j fun m => hj (List.mem_append_left _ m)), fun j hj => (k.env j fun m => hj (List.mem_append_right _ m)).trans (h.env j fun m => hj (List.mem_append_left _ m))⟩
def LG (b : Bg) (js : List Nat) (t : VTg) : TG := fun v σ H Q => ∃ H0 M Zo Z ρ d Qd, FOk b H0 M Zo Z σ H ρ ∧ Rp b Z H v d ∧ t d ρ Qd ∧ ∀ Z' σ' ρ', (∀ a, Z' a → Z a) → Same js σ σ' ρ ρ' → FOk b H0 M Zo Z' σ' H ρ' → Qd ρ' → Q σ' H
def VG (X : Cx) (b : Bg) (tg : Expr) (js : List Nat) (t : VTg) : Prop := PG X tg (LG b js t)
theorem pg_mono {e : Expr} {t t' : TG} (h : PG X e t) (m : ∀ v σ H Q, t' v σ H Q → t v σ H Q) : PG X e t' := ⟨fun pins s σ H v u Q I r q => h.run pins s σ H v u Q I r (m v σ H Q q)⟩
@[simp] def tgName (i : Nat) : VTg := fun d ρ Q => i < ρ.length ∧ Q (ρ.set i (.shr d))
theorem vg_name (hN : X.N.Nodup) (hi : X.N[i]? = some x) (hx : Loc X.env.scope x) (hf : X.fn x = true ∨ X.env.scope.names.lookup x = some .local := by first | exact .inl rfl | exact .inr rfl | assumption) : VG X b (.Name x pos) [i] (tgName i) :=
  pg_mono (pg_name hN hi hx hf) fun v σ H Q ⟨H0, M, Zo, Z, ρ, d, Qd, f, r, ⟨hl, q⟩, k⟩ => k _ _ _ (f.v.but i) ⟨List.length_set .., fun j hj => List.getElem?_set_ne fun e => hj (by rw [e]; exact List.mem_singleton.mpr rfl), fun j hj => List.getElem?_set_ne fun e => hj (by rw [e]; exact List.mem_singleton.mpr rfl)⟩ (f.set hl r) q
/-- several targets -/
def LGs (b : Bg) (js : List Nat) (t : VTgs) : TGs := fun v σ H Q => ∃ H0 M Zo Z ρ d Qd, FOk b H0 M Zo Z σ H ρ ∧ Rps b Z H v d ∧ t d ρ Qd ∧ ∀ Z' σ' ρ', (∀ a, Z' a → Z a) → Same js σ σ' ρ ρ' → FOk b H0 M Zo Z' σ' H ρ' → Qd ρ' → Q σ' H
def VGs (X : Cx) (b : Bg) (tg : List Expr) (js : List Nat) (t : VTgs) : Prop := PGs X tg (LGs b js t)
theorem pgs_mono {e : List Expr} {t t' : TGs} (h : PGs X e t) (m : ∀ v σ H Q, t' v σ H Q → t v σ H Q) : PGs X e t' := ⟨fun pins s σ H v u Q I r q => h.run pins s σ H v u Q I r (m v σ H Q q)⟩
@[simp] def tgNil : VTgs
  | [], ρ, Q => Q ρ
  | _, _, _ => False
@[simp] def tgCons (t : VTg) (u : VTgs) : VTgs
  | d :: r, ρ, Q => t d ρ fun ρ' => u r ρ' Q
  | _, _, _ => False
theorem vgs_nil : VGs X b [] [] tgNil := pgs_mono pgs_nil fun v σ H Q ⟨H0, M, Zo, Z, ρ, d, Qd, f, r, q, k⟩ => by
  cases r with
  | nil => exact ⟨rfl, k Z σ ρ (fun _ z => z) .refl f q⟩
  | cons _ _ => exact False.elim q
theorem vgs_cons {tg : Expr} {tgs : List Expr} {js ks : List Nat} {t : VTg} {u : VTgs} (h1 : VG X b tg js t) (h2 : VGs X b tgs ks u)
    (hs : (assignEach (tg :: tgs) X.env).map (·.2) = assign tg X.env :: (assignEach tgs X.env).map (·.2) := by rfl) : VGs X b (tg :: tgs) (js ++ ks) (tgCons t u) :=
  pgs_mono (pgs_cons h1 h2 hs) fun v σ H Q ⟨H0, M, Zo, Z, ρ, d, Qd, f, r, q, k⟩ => by
    cases r with
    | nil => exact False.elim q
    | @cons _ d1 _ dr r1 rr => exact ⟨_, _, rfl, H0, M, Zo, Z, ρ, d1, _, f, r1, q, fun Z' σ' ρ' sub sm f' q' => ⟨H0, M, Zo, Z', ρ', dr, Qd, f', rr.mono (fun a z => .inl (sub a z)) (fun _ _ e _ => e), q', fun Z2 σ2 ρ2 sub2 sm2 f2 q2 => k Z2 σ2 ρ2 (fun a z => sub a (sub2 a z)) (sm.trans sm2) f2 q2⟩⟩
@[simp] def tgTup (n : Nat) (u : VTgs) : VTg
  | .py (.tuple ps), ρ, Q => ps.length = n ∧ u (ps.map D.py) ρ Q
  | _, _, _ => False
theorem tgTup_ex {n : Nat} {u : VTgs} : ∀ {d : D} {ρ : VEnv} {Q : VEnv → Prop}, tgTup n u d ρ Q → ∃ ps, d = .py (.tuple ps) ∧ ps.length = n ∧ u (ps.map D.py) ρ Q
  | .py (.tuple ps), _, _, h => ⟨ps, rfl, h⟩
theorem vg_tup {tgs : List Expr} {k n : Nat} {js : List Nat} {u : VTgs} (hc : X.calm = true) (h : VGs X b tgs js u) (hn : (assignEach tgs X.env).length = n := by rfl) (hst : (assignEach tgs X.env).findIdx? (·.1) = none := by rfl) : VG X b (.Tuple tgs k pos) js (tgTup n u) :=
  pg_mono (pg_tup hc h hn hst) fun v σ H Q ⟨H0, M, Zo, Z, ρ, d, Qd, f, r, hh, k⟩ => by
    obtain ⟨ps, e, hl, q⟩ := tgTup_ex hh
    subst e
    obtain ⟨a, o, xs, rfl, ha, ho, na, qa⟩ := Rb.tuple (b := b) (.inl r)
    exact ⟨a, xs, rfl, SqT.th ha, by rw [qa.length]; exact hl, H0, M, Zo, Z, ρ, _, Qd, f, qa.to, q, k⟩
/-- target = value -/
@[simp] def sAsg (t : VT) (g : VTg) : VS := fun ρ De => t ρ (fun d => g d ρ De.nx) (De.ex ρ)
theorem vs_asgT {tg : Expr} {js : List Nat} {g : VTg} (he : VE X b W e t) (hg : VG X b tg js g) (hs : swapsWithSole [tg] e pos.line X.env = pure false := by rfl) (hw : swappedStores [tg] e X.env = pure none := by rfl)
    (h1 : (assignEach [tg] X.env).map (·.2) = [assign tg X.env] := by rfl) : VSt X b W (.Assign [tg] e pos) (sAsg t g) :=
  ps_mono (ps_asg he hg hs hw h1) fun D σ H ⟨H0, M, Zo, Z, ρ, De, f, q, l⟩ => ⟨Zo, Z, ρ, _, _, f.v, q, fun v H' d x g r q' =>
    ⟨H0, M, Zo, Z, ρ, d, _, f.ex x g, r, q', fun Z' σ' ρ' _ _ f' q2 => l.nx Z' σ' H' ρ' f' q2⟩, l.er f⟩
end
end VL
set_option Elab.async false
set_option linter.all false
set_option maxRecDepth 100000
set_option maxHeartbeats 4000000
namespace VL
open PySem PySem.Spec PyProof.Rows L2

/-! ### values some of which are new -/
inductive Rm (b : Bg) (Y : Addr → Prop) (H H' : Hp) : List V → List (Bool × D) → List Addr → Prop
  | nil : Rm b Y H H' [] [] []
  | sh {v : V} {d : D} {vs : List V} {ms : List (Bool × D)} {N : List Addr} : Rp b Y H' v d → Rm b Y H H' vs ms N → Rm b Y H H' (v :: vs) ((false, d) :: ms) N
  | nw {a : Addr} {d : D} {vs : List V} {ms : List (Bool × D)} {N : List Addr} : H a = none → a ∉ N → Ow b Y H' a d → Rm b Y H H' vs ms N → Rm b Y H H' (.ref a :: vs) ((true, d) :: ms) (a :: N)
abbrev VAm := VEnv → (List (Bool × D) → Prop) → (Er → Prop) → Prop
def LAm (b : Bg) (W : WX) (t : VAm) : TA := fun σ H Q => ∃ Zo Z ρ Qd Ed, VOk b Zo Z σ H ρ ∧ t ρ Qd Ed ∧
  (∀ vs H' ms N, Ex b H H' → b.G H' → Rm b (fun c => Z c ∨ c ∈ N) H H' vs ms N → Qd ms → Q vs H') ∧ ∀ c x H' er, Ex b H H' → b.G H' → ErRp b Z H' c x er → Ed er → W c x σ H'
def VMs (X : Cx) (b : Bg) (W : WX) (es : List Expr) (t : VAm) : Prop := PA X es (LAm b W t)
@[simp] def mNil : VAm := fun _ Q _ => Q []
@[simp] def mCons (k : Bool) (t : VT) (u : VAm) : VAm := fun ρ Q E => t ρ (fun d => u ρ (fun ds => Q ((k, d) :: ds)) E) E

section
variable {b : Bg} {Y Y' : Addr → Prop} {H H' H1 : Hp} {vs : List V} {ms : List (Bool × D)} {N : List Addr}
theorem Rm.sub (h : ∀ c, Y' c → Y c) : ∀ {vs : List V} {ms : List (Bool × D)} {N : List Addr}, Rm b Y H H' vs ms N → Rm b Y' H H' vs ms N
  | _, _, _, .nil => .nil
  | _, _, _, .sh r t => .sh (r.mono (fun c z => .inl (h c z)) fun _ _ e _ => e) (Rm.sub h t)
  | _, _, _, .nw hn hm o t => .nw hn hm (o.mono (fun c z => .inl (h c z)) (fun _ _ e _ => e) fun _ e => e) (Rm.sub h t)
theorem Rm.back (h : ∀ c, H1 c = none → H c = none) : ∀ {vs : List V} {ms : List (Bool × D)} {N : List Addr}, Rm b Y H1 H' vs ms N → Rm b Y H H' vs ms N
  | _, _, _, .nil => .nil
  | _, _, _, .sh r t => .sh r (Rm.back h t)
  | _, _, _, .nw hn hm o t => .nw (h _ hn) hm o (Rm.back h t)
theorem Rm.new : ∀ {vs : List V} {ms : List (Bool × D)} {N : List Addr}, Rm b Y H H' vs ms N → ∀ c ∈ N, H c = none ∧ H' c ≠ none
  | _, _, _, .nil, _, h => nomatch h
  | _, _, _, .sh _ t, c, h => Rm.new t c h
  | _, _, _, .nw hn _ o t, c, h => by
    rcases List.mem_cons.mp h with rfl | h
    · obtain ⟨u, e⟩ := o.at
      exact ⟨hn, by rw [e]; simp⟩
    · exact Rm.new t c h
theorem none_back (g : b.G H1) (x : Ex b H H1) (c : Addr) (h : H1 c = none) : H c = none := by
  cases q : H c with
  | none => rfl
  | some u =>
    by_cases hb : b.B c
    · exact absurd h (b.dom _ _ g hb)
    · rw [x c u q hb] at h; cases h
end
section
variable {b : Bg} {Zo Z : Addr → Prop} {σ : L2.St} {H H' : Hp} {ρ : VEnv}
/-- new addresses held apart by an outer one -/
theorem VOk.many (v : VOk b Zo Z σ H ρ) (x : Ex b H H') (g : b.G H') {N : List Addr} (hN : ∀ c ∈ N, H c = none ∧ H' c ≠ none) : VOk b (fun c => Zo c ∨ c ∈ N) (fun c => Z c ∨ c ∈ N) σ H' ρ := by
  have v' := v.ex x g
  have hz : ∀ c, (Z c ∨ c ∈ N) → Z c ∨ H c = none := fun c z => z.imp id fun m => (hN c m).1
  refine ⟨g, fun c z => .inl (v.zb c z), fun c z => z.imp (v.zo c) id, fun c z => z.elim (v'.dom c) fun m => (hN c m).2, fun c z => z.elim (fun z => (v.zi c z).imp .inl id) fun m => .inl (.inr m), fun i d e => ?_, v.inj, fun i d e => ?_, v.len⟩
  · obtain ⟨a, h1, h2, h3, h4⟩ := v.own i d e
    refine ⟨a, h1, .inl h2, fun z => z.elim h3 fun m => v.dom a h2 (hN a m).1, h4.mono hz (v.keep x) fun o q => x a o q fun z => h3 (v.zb a z)⟩
  · obtain ⟨u, h1, h2⟩ := v.shr i d e
    exact ⟨u, h1, h2.mono hz (v.keep x)⟩
end

section
variable {X : Cx} {b : Bg} {W : WX} {e e1 e2 : Expr} {es : List Expr} {t t1 t2 : VT} {u : VAm} {pos : Pos}
theorem vm_nil : VMs X b W [] mNil := pa_mono pa_nil fun σ H Q ⟨Zo, Z, ρ, Qd, Ed, v, q, l, _⟩ => l [] H [] [] Ex.refl v.g .nil q
theorem vm_sh (h : VE X b W e t) (k : VMs X b W es u) (hs : starEach (e :: es) X.env = (false, eval e X.env) :: starEach es X.env := by rfl) : VMs X b W (e :: es) (mCons false t u) :=
  pa_mono (pa_cons h k hs) fun σ H Q ⟨Zo, Z, ρ, Qd, Ed, v, q, l, m⟩ => ⟨Zo, Z, ρ, _, Ed, v, q, fun x H1 d x1 g1 r1 q1 =>
    ⟨Zo, Z, ρ, _, Ed, v.ex x1 g1, q1, fun xs H2 ms N x2 g2 r2 q2 => l (x :: xs) H2 ((false, d) :: ms) N (x1.trans x2) g2
        (.sh (r1.mono (fun c z => z.imp id fun m => (r2.new c m).1) ((v.ex x1 g1).keep x2)) (r2.back (none_back g1 x1))) q2,
      fun c y H2 er x2 g2 r2 q2 => m c y H2 er (x1.trans x2) g2 r2 q2⟩, m⟩
theorem vm_nw (h : VN X b W e t) (k : VMs X b W es u) (hs : starEach (e :: es) X.env = (false, eval e X.env) :: starEach es X.env := by rfl) : VMs X b W (e :: es) (mCons true t u) :=
  pa_mono (pa_cons h k hs) fun σ H Q ⟨Zo, Z, ρ, Qd, Ed, v, q, l, m⟩ => ⟨Zo, Z, ρ, _, Ed, v, q, fun x H1 d x1 g1 ⟨a, ex, hn, o⟩ q1 => by
    subst ex
    obtain ⟨oa, ea⟩ := o.at
    have h1 : H1 a ≠ none := by rw [ea]; simp
    have nb : ¬ b.B a := fun z => v.fresh hn (v.zo a (v.zb a z))
    have v1 := v.many x1 g1 (N := [a]) fun c hc => by rw [List.mem_singleton.mp hc]; exact ⟨hn, h1⟩
    refine ⟨_, _, ρ, _, Ed, v1, q1, fun xs H2 ms N x2 g2 r2 q2 => ?_, fun c y H2 er x2 g2 r2 q2 => m c y H2 er (x1.trans x2) g2 ?_ q2⟩
    · have hN : a ∉ N := fun hm => h1 (r2.new a hm).1
      refine l (.ref a :: xs) H2 ((true, d) :: ms) (a :: N) (x1.trans x2) g2 (.nw hn hN ?_ ((r2.sub fun c z => ?_).back (none_back g1 x1))) q2
      · refine o.mono (fun c z => ?_) (fun c oc ec nc => x2 c oc ec fun z => nc (.inl (v.zo c (v.zb c z)))) fun oc ec => x2 a oc ec nb
        rcases z with z | z
        · exact .inl (.inl z)
        · rcases List.mem_cons.mp z with rfl | z
          · exact .inl (.inr rfl)
          · exact .inr (r2.new c z).1
      · rcases z with z | z
        · exact .inl (.inl z)
        · rcases List.mem_cons.mp z with rfl | z
          · exact .inl (.inr (List.mem_singleton.mpr rfl))
          · exact .inr z
    · obtain ⟨h3, h4⟩ := r2
      refine ⟨h3, h4.imp id ?_⟩
      rintro ⟨c, ys, e1, e2, e3, e4⟩
      exact ⟨c, ys, e1, e2, fun z => e3 (.inl z), e4.mono (fun c z => .inl (.inl z)) fun _ _ e _ => e⟩, m⟩
end

/-! ### a, b, .. = values -/
def setA : List Nat → List V → L2.St → L2.St
  | i :: is, v :: vs, σ => setA is vs (σ.set i (some v))
  | _, _, σ => σ
@[simp] def setE : List Nat → List (Bool × D) → VEnv → VEnv
  | i :: is, (k, d) :: ms, ρ => setE is ms (ρ.set i (if k = true then .own d else .shr d))
  | _, _, ρ => ρ
section
variable {b : Bg} {W : WX} {H0 : Hp} {M Zo Z : Addr → Prop} {σ : L2.St} {H H' : Hp} {ρ : VEnv} {De : VEnds} {Dn : Ends}
theorem FOk.many (f : FOk b H0 M Zo Z σ H ρ) (x : Ex b H H') (g : b.G H') {N : List Addr} (hN : ∀ c ∈ N, H c = none ∧ H' c ≠ none) : FOk b H0 M (fun c => Zo c ∨ c ∈ N) (fun c => Z c ∨ c ∈ N) σ H' ρ :=
  ⟨f.v.many x g hN, fun a o e nb nm => x a o (f.ext a o e nb nm) nb, f.fr⟩
/-- an address held apart becomes slot i's own -/
theorem FOk.adopt {a : Addr} {N : List Addr} {d : D} {i : Nat} (f : FOk b H0 M (fun c => Zo c ∨ c ∈ a :: N) Z σ H ρ) (hzb : ∀ c, b.B c → Zo c) (hN : a ∉ N) (hz : ¬ Zo a) (hf : M a ∨ H0 a = none) (hi : i < ρ.length) (o : Ow b Z H a d) :
    ∃ Z', FOk b H0 M (fun c => Zo c ∨ c ∈ N) Z' (σ.set i (some (.ref a))) H (ρ.set i (.own d)) ∧ ∀ c, Z' c → Z c := by
  have v := f.v
  have hiσ : i < σ.length := by rw [← v.len]; exact hi
  have hza : Z a := v.zo a (.inr List.mem_cons_self)
  have low : ∀ c, (Zo c ∨ c ∈ N) → (Zo c ∨ c ∈ a :: N) := fun c z => z.imp id (List.mem_cons_of_mem _)
  let Z' : Addr → Prop := fun c => (zBut (fun c => Zo c ∨ c ∈ N) σ ρ i c) ∨ c = a
  have sub : ∀ c, Z' c → Z c := fun c z => by
    rcases z with (z | ⟨j, e, _, h1, h2⟩) | rfl
    · exact v.zo c (low c z)
    · obtain ⟨c', h3, h4, _⟩ := v.own j e h1
      rw [h2] at h3; cases h3; exact h4
    · exact hza
  have na : ∀ (j : Nat) (e : D) (c : Addr), ρ[j]? = some (.own e) → σ[j]? = some (some (.ref c)) → c ≠ a := fun j e c h1 h2 q => by
    obtain ⟨c', h3, _, h4, _⟩ := v.own j e h1
    rw [h2] at h3; cases h3; rw [q] at h4
    exact h4 (.inr List.mem_cons_self)
  have ow : ∀ {j : Nat} {e : D}, (ρ.set i (.own d))[j]? = some (.own e) → (j = i ∧ e = d) ∨ (j ≠ i ∧ ρ[j]? = some (.own e)) := fun {j e} h => by
    by_cases hj : j = i
    · subst hj
      rw [List.getElem?_set_self hi] at h; cases h; exact .inl ⟨rfl, rfl⟩
    · rw [List.getElem?_set_ne (Ne.symm hj)] at h
      exact .inr ⟨hj, h⟩
  refine ⟨Z', ⟨⟨v.g, fun c z => .inl (hzb c z), fun c z => .inl (.inl z), fun c z => v.dom c (sub c z), fun c z => ?_, fun j e h => ?_, fun j k e e2 c h1 h2 h3 h4 => ?_, fun j e h => ?_, by simpa using v.len⟩, f.ext, fun j e c h1 h2 => ?_⟩, sub⟩
  · rcases z with (z | ⟨j, e, hj, h1, h2⟩) | rfl
    · exact .inl z
    · exact .inr ⟨j, e, by rw [List.getElem?_set_ne (Ne.symm hj)]; exact h1, by rw [List.getElem?_set_ne (Ne.symm hj)]; exact h2⟩
    · exact .inr ⟨i, d, List.getElem?_set_self hi, List.getElem?_set_self hiσ⟩
  · rcases ow h with ⟨q1, q2⟩ | ⟨hj, p1⟩
    · rw [q1, q2]
      exact ⟨a, List.getElem?_set_self hiσ, .inr rfl, fun z => z.elim hz hN, o.mono (fun c z => .inl (sub c z)) (fun _ _ e _ => e) fun _ e => e⟩
    · obtain ⟨c, h1, h2, h3, h4⟩ := v.own j e p1
      exact ⟨c, by rw [List.getElem?_set_ne (Ne.symm hj)]; exact h1, .inl (.inr ⟨j, e, hj, p1, h1⟩), fun z => h3 (low c z), h4.mono (fun c z => .inl (sub c z)) (fun _ _ e _ => e) fun _ e => e⟩
  · rcases ow h1 with ⟨q1, _⟩ | ⟨hj, p1⟩
    · rcases ow h2 with ⟨q2, _⟩ | ⟨hk, p2⟩
      · rw [q1, q2]
      · rw [q1, List.getElem?_set_self hiσ] at h3; cases h3
        rw [List.getElem?_set_ne (Ne.symm hk)] at h4
        exact absurd rfl (na k e2 _ p2 h4)
    · rw [List.getElem?_set_ne (Ne.symm hj)] at h3
      rcases ow h2 with ⟨q2, _⟩ | ⟨hk, p2⟩
      · rw [q2, List.getElem?_set_self hiσ] at h4; cases h4
        exact absurd rfl (na j e _ p1 h3)
      · rw [List.getElem?_set_ne (Ne.symm hk)] at h4
        exact v.inj j k e e2 c p1 p2 h3 h4
  · by_cases hj : j = i
    · rw [hj, List.getElem?_set_self hi] at h; cases h
    · rw [List.getElem?_set_ne (Ne.symm hj)] at h
      obtain ⟨w, h1, h2⟩ := v.shr j e h
      exact ⟨w, by rw [List.getElem?_set_ne (Ne.symm hj)]; exact h1, h2.mono (fun c z => .inl (sub c z)) fun _ _ e _ => e⟩
  · rcases ow h1 with ⟨q1, _⟩ | ⟨hj, p1⟩
    · rw [q1, List.getElem?_set_self hiσ] at h2; cases h2
      exact hf
    · rw [List.getElem?_set_ne (Ne.symm hj)] at h2
      exact f.fr j e c p1 h2
/-- all of them, one after another -/
theorem FOk.setAll (hb : ∀ c, b.B c → Zo c) : ∀ (is : List Nat) (vs : List V) (ms : List (Bool × D)) (N : List Addr) (Z : Addr → Prop) (σ : L2.St) (ρ : VEnv), FOk b H0 M (fun c => Zo c ∨ c ∈ N) Z σ H' ρ → Rm b Z H H' vs ms N → (∀ c ∈ N, ¬ Zo c ∧ (M c ∨ H0 c = none)) →
    ms.length = is.length → (∀ i ∈ is, i < ρ.length) → ∃ Z', FOk b H0 M Zo Z' (VL.setA is vs σ) H' (setE is ms ρ) := by
  intro is
  induction is with
  | nil =>
    intro vs ms N Z σ ρ f r hN hl hi
    cases r with
    | nil =>
      refine ⟨Z, ?_⟩
      have e : (fun c => Zo c ∨ c ∈ ([] : List Addr)) = Zo := by funext c; simp
      rw [e] at f
      exact f
    | sh _ _ => simp at hl
    | nw _ _ _ _ => simp at hl
  | cons i is ih =>
    intro vs ms N Z σ ρ f r hN hl hi
    cases r with
    | nil => simp at hl
    | sh r t =>
      have f1 := f.set (hi i List.mem_cons_self) r
      exact ih _ _ _ _ _ _ f1 (t.sub (f.v.but i)) hN (by simpa using hl) fun j hj => by rw [List.length_set]; exact hi j (List.mem_cons_of_mem _ hj)
    | nw hn hm o t =>
      obtain ⟨Z1, f1, sub⟩ := f.adopt hb hm (hN _ List.mem_cons_self).1 (hN _ List.mem_cons_self).2 (hi i List.mem_cons_self) o
      exact ih _ _ _ _ _ _ f1 (t.sub sub) (fun c hc => hN c (List.mem_cons_of_mem _ hc)) (by simpa using hl) fun j hj => by rw [List.length_set]; exact hi j (List.mem_cons_of_mem _ hj)
theorem FOk.par (f : FOk b H0 M Zo Z σ H ρ) {is : List Nat} {vs : List V} {ms : List (Bool × D)} {N : List Addr} (x : Ex b H H') (g : b.G H') (r : Rm b (fun c => Z c ∨ c ∈ N) H H' vs ms N) (hl : ms.length = is.length) (hi : ∀ i ∈ is, i < ρ.length) : ∃ Z', FOk b H0 M Zo Z' (VL.setA is vs σ) H' (setE is ms ρ) := by
  refine FOk.setAll f.v.zb is vs ms N _ σ ρ (f.many x g r.new) r (fun c hc => ⟨fun z => f.v.dom c (f.v.zo c z) (r.new c hc).1, ?_⟩) hl hi
  have hn := (r.new c hc).1
  cases q : H0 c with
  | none => exact .inr rfl
  | some u =>
    by_cases hb : b.B c
    · exact absurd hn (b.dom _ _ f.v.g hb)
    · by_cases hm : M c
      · exact .inl hm
      · have := f.ext c u q hb hm
        rw [hn] at this; cases this
end
section
variable {X : Cx} {b : Bg} {W : WX} {e e1 e2 e3 : Expr} {es : List Expr} {t t1 t2 : VT} {u : VAm} {pos : Pos}
@[simp] def sPar (is : List Nat) (u : VAm) : VS := fun ρ De => (∀ i ∈ is, i < ρ.length) ∧ u ρ (fun ms => ms.length = is.length ∧ De.nx (setE is ms ρ)) (De.ex ρ)
theorem Rm.len {Y : Addr → Prop} {H H' : Hp} : ∀ {vs : List V} {ms : List (Bool × D)} {N : List Addr}, Rm b Y H H' vs ms N → vs.length = ms.length
  | _, _, _, .nil => rfl
  | _, _, _, .sh _ t => congrArg (· + 1) (Rm.len t)
  | _, _, _, .nw _ _ _ t => congrArg (· + 1) (Rm.len t)
theorem vs_par2 {i j : Nat} {x y : Str} {px py pt : Pos} {kt k2 pt2} (hc : X.calm = true) (hN : X.N.Nodup) (hi : X.N[i]? = some x) (hj : X.N[j]? = some y) (hij : i ≠ j)
    (hx : X.env.scope.names.lookup x = some .local) (hy : X.env.scope.names.lookup y = some .local) (ha : VMs X b W [e1, e2] u)
    (hw : swappedStores [.Tuple [.Name x px, .Name y py] kt pt] (.Tuple [e1, e2] k2 pt2) X.env = pure (some [x, y]))
    (hs : swapsWithSole [.Tuple [.Name x px, .Name y py] kt pt] (.Tuple [e1, e2] k2 pt2) pos.line X.env = pure false := by rfl) :
    VSt X b W (.Assign [.Tuple [.Name x px, .Name y py] kt pt] (.Tuple [e1, e2] k2 pt2) pos) (sPar [i, j] u) :=
  ps_mono (ps_par hc hN hi hj hij hx hy ha hw hs) fun D σ H ⟨H0, M, Zo, Z, ρ, De, f, ⟨hl, q⟩, l⟩ => ⟨Zo, Z, ρ, _, _, f.v, q, fun vs H' ms N x g r ⟨hm, q'⟩ => by
    obtain ⟨Z', f'⟩ := f.par (is := [i, j]) x g r hm hl
    match vs, r.len.trans hm with
    | [v, w], _ => exact ⟨v, w, rfl, l.nx Z' _ H' _ f' q'⟩, l.er f⟩
theorem vs_par3 {i j k : Nat} {x y z : Str} {px py pz pt : Pos} {kt k2 pt2} (hc : X.calm = true) (hN : X.N.Nodup) (hi : X.N[i]? = some x) (hj : X.N[j]? = some y) (hk : X.N[k]? = some z) (hij : i ≠ j) (hik : i ≠ k) (hjk : j ≠ k)
    (hx : X.env.scope.names.lookup x = some .local) (hy : X.env.scope.names.lookup y = some .local) (hz : X.env.scope.names.lookup z = some .local) (ha : VMs X b W [e1, e2, e3] u)
    (hw : swappedStores [.Tuple [.Name x px, .Name y py, .Name z pz] kt pt] (.Tuple [e1, e2, e3] k2 pt2) X.env = pure (some [x, y, z]))
    (hs : swapsWithSole [.Tuple [.Name x px, .Name y py, .Name z pz] kt pt] (.Tuple [e1, e2, e3] k2 pt2) pos.line X.env = pure false := by rfl) :
    VSt X b W (.Assign [.Tuple [.Name x px, .Name y py, .Name z pz] kt pt] (.Tuple [e1, e2, e3] k2 pt2) pos) (sPar [i, j, k] u) :=
  ps_mono (ps_par3 hc hN hi hj hk hij hik hjk hx hy hz ha hw hs) fun D σ H ⟨H0, M, Zo, Z, ρ, De, f, ⟨hl, q⟩, l⟩ => ⟨Zo, Z, ρ, _, _, f.v, q, fun vs H' ms N x g r ⟨hm, q'⟩ => by
    obtain ⟨Z', f'⟩ := f.par (is := [i, j, k]) x g r hm hl
    match vs, r.len.trans hm with
    | [v, w, y], _ => exact ⟨v, w, y, rfl, l.nx Z' _ H' _ f' q'⟩, l.er f⟩
/-- the targets' reading: names -/
def gNames : List Nat → TGs
  | [] => gNil
  | i :: is => gCons (gName i) (gNames is)
theorem gNames_set : ∀ {is : List Nat} {vs : List V} {σ : L2.St} {H : Hp} {Q : L2.St → Hp → Prop}, vs.length = is.length → Q (VL.setA is vs σ) H → gNames is vs σ H Q
  | [], [], _, _, _, _, q => ⟨rfl, q⟩
  | i :: is, v :: vs, σ, H, Q, h, q => ⟨v, vs, rfl, gNames_set (by simpa using h) q⟩
/-- by way of a tuple -/
theorem vs_parT {is : List Nat} {tgs : List Expr} {kt k2} {pt pt2 : Pos} (hc : X.calm = true) (hg : PGs X tgs (gNames is)) (ha : VMs X b W es u) (hn : (assignEach tgs X.env).length = is.length := by rfl) (hst : (assignEach tgs X.env).findIdx? (·.1) = none := by rfl)
    (hz : is.length ≤ 1000 := by decide) (hs : swapsWithSole [.Tuple tgs kt pt] (.Tuple es k2 pt2) pos.line X.env = pure false := by rfl) (hw : swappedStores [.Tuple tgs kt pt] (.Tuple es k2 pt2) X.env = pure none := by rfl)
    (h1 : (assignEach [.Tuple tgs kt pt] X.env).map (·.2) = [assign (.Tuple tgs kt pt) X.env] := by rfl) :
    VSt X b W (.Assign [.Tuple tgs kt pt] (.Tuple es k2 pt2) pos) (sPar is u) :=
  ps_mono (ps_asg (pe_tupF ha) (pg_tup hc hg hn hst) hs hw h1) fun D σ H ⟨H0, M, Zo, Z, ρ, De, f, ⟨hl, q⟩, l⟩ => ⟨Zo, Z, ρ, _, _, f.v, q, fun vs H' ms N x g r ⟨hm, q'⟩ => by
    obtain ⟨Z', f'⟩ := f.par (is := is) x g r hm hl
    have hv : vs.length = is.length := r.len.trans hm
    refine ⟨Nat.le_of_lt (small1000 (by rw [hv]; exact hz)), fun p o hp ho => ⟨p, vs, rfl, SqT.th upd_same, hv, gNames_set hv ?_⟩⟩
    exact l.nx Z' _ _ _ (f'.ex (Ex.new hp) (Bg.new g hp)) q', l.er f⟩
end
end VL
set_option Elab.async false
set_option linter.all false
set_option maxRecDepth 100000
set_option maxHeartbeats 4000000
namespace VL
open PySem PySem.Spec PyProof.Rows L2

/-! ### sources: a list, a tuple, a text -/
inductive Kd where
  | l (a : Addr) | t (a : Addr) | s (x : Str) (k : Tok)
def Kd.val : Kd → Value
  | .l a => .ref a | .t a => .ref a | .s x k => .str x k
def Kd.obj : Kd → Obj
  | .l a => { cls := .type "list_iterator", data := .fields #[.ref a, .int 0 0] }
  | .t a => { cls := .type "tuple_iterator", data := .fields #[.ref a, .int 0 0] }
  | .s x k => { cls := .type (strIterType x), data := .fields #[.str x k, .int 0 0] }
/-- the walker at it stands at item i -/
def Kd.At : Kd → Addr → Nat → Heap → Prop
  | .l a, it, i, h => h.IsListIter it a i
  | .t a, it, i, h => h.IsTupleIter it a i
  | .s x k, it, i, h => h.IsStrIter it (strIterType x) x k i
def Kd.ad : Kd → List Addr
  | .l a => [a] | .t a => [a] | .s _ _ => []
def signs (x : Str) : List V := x.cps.toList.map fun c => V.str (mkS [c])
def Kd.gives (K : PySem.W.Frag) (H : Hp) : Kd → List V → Prop
  | .l a, xs => SqL K H a xs
  | .t a, xs => SqT K H a xs
  | .s x _, xs => xs = signs x
theorem Kd.begins {X : Cx} {pins : List (Addr × Obj)} {σ : L2.St} {H : Hp} {s : Shared} (I : Inv X pins σ H s) {k : Kd} {xs : List V} (g : k.gives X.K H xs) : ∃ Hs, Begins k.val k.obj Hs ∧ Hs s.heap ∧ ∀ b ∈ k.ad, b < s.heap.objs.size := by
  cases k with
  | l a =>
    obtain ⟨its, _, p, _⟩ := I.list g
    exact ⟨_, begins_list a its.toArray, p.isList, fun b hb => by rw [List.mem_singleton.mp hb]; exact p.lt⟩
  | t a =>
    obtain ⟨its, _, p, _⟩ := I.tuple g
    obtain ⟨o, ho, _⟩ := id p
    exact ⟨_, begins_tuple a its.toArray, p, fun b hb => by rw [List.mem_singleton.mp hb]; exact Heap.lt_size ho⟩
  | s x t => exact ⟨_, begins_text x t, trivial, fun b hb => by cases hb⟩
theorem Kd.start {k : Kd} {it : Addr} {h : Heap} (e : h.get? it = some k.obj) : k.At it 0 h := by
  cases k with
  | l a => exact ⟨_, e, rfl, rfl⟩
  | t a => exact ⟨_, e, rfl, rfl⟩
  | s x t => exact ⟨_, e, rfl, rfl⟩
theorem Kd.free {k : Kd} : k.obj.isFreed = false := by cases k <;> rfl
theorem Kd.At.at {k : Kd} {it : Addr} {i : Nat} {h h' : Heap} (st : k.At it i h) (e : ∀ o, h.get? it = some o → h'.get? it = some o) : k.At it i h' := by
  cases k with
  | l a => exact Heap.IsListIter.at st e
  | t a => exact Heap.IsTupleIter.at st e
  | s x t => obtain ⟨o, ho, r⟩ := st; exact ⟨o, e o ho, r⟩
theorem Kd.At.rec' {k : Kd} {it : Addr} {i : Nat} {h : Heap} (st : k.At it i h) : ∃ o vs, h.get? it = some o ∧ o.data = .fields vs := by
  cases k with
  | l a => obtain ⟨o, ho, _, hd⟩ := st; exact ⟨o, _, ho, hd⟩
  | t a => obtain ⟨o, ho, _, hd⟩ := st; exact ⟨o, _, ho, hd⟩
  | s x t => obtain ⟨o, ho, _, hd⟩ := st; exact ⟨o, _, ho, hd⟩
theorem signs_get {x : Str} {i : Nat} {c : Nat} (h : x.cps[i]? = some c) : (signs x)[i]? = some (V.str (mkS [c])) := by
  unfold signs
  rw [List.getElem?_map, Array.getElem?_toList, h]
  rfl
theorem vals_at : ∀ {xs : List V} {its : List Value} {i : Nat} {u : Value}, Vals xs its → its[i]? = some u → ∃ y, xs[i]? = some y ∧ RelV y u
  | _, _, _, _, .nil, e => by simp at e
  | _, _, 0, _, .cons r _, e => by simp at e; subst e; exact ⟨_, rfl, r⟩
  | _, _, i + 1, _, .cons _ t, e => by
    obtain ⟨y, h1, h2⟩ := vals_at (i := i) t (by simpa using e)
    exact ⟨y, by simpa using h1, h2⟩
/-- what a source draws -/
theorem Kd.draws {X : Cx} {pins : List (Addr × Obj)} {σ : L2.St} {H : Hp} {s : Shared} (I : Inv X pins σ H s) (hc : X.calm = true) {k : Kd} {xs : List V} (g : k.gives X.K H xs) (it : Addr) (hne : it ∉ k.ad) :
    ∃ (P : Nat → Value → Prop) (St : Nat → Heap → Prop), Draws X.prog X.w X.A.in1 it (it :: k.ad) xs.length P St ∧ (∀ i, k.At it i s.heap → St i s.heap) ∧ (∀ i h, St i h → k.At it i h) ∧ ∀ i v, P i v → ∃ y, xs[i]? = some y ∧ RelV y v := by
  have hh : X.A.in1.handled = none := I.ok.hd hc
  cases k with
  | l a =>
    obtain ⟨its, r, p, _⟩ := I.list g
    have hn : a ≠ it := fun e => hne (by rw [e]; exact List.mem_singleton.mpr rfl)
    have D := Draws.list (prog := X.prog) (w := X.w) (A := X.A.in1) hh it a hn its.toArray
    rw [List.size_toArray, ← r.length] at D
    exact ⟨_, _, D, fun i st => ⟨st, p.isList⟩, fun i h st => st.1, fun i v hv => vals_at r (by simpa using hv)⟩
  | t a =>
    obtain ⟨its, r, p, _⟩ := I.tuple g
    have hn : a ≠ it := fun e => hne (by rw [e]; exact List.mem_singleton.mpr rfl)
    have D := Draws.tuple (prog := X.prog) (w := X.w) (A := X.A.in1) hh it a hn its.toArray
    rw [List.size_toArray, ← r.length] at D
    exact ⟨_, _, D, fun i st => ⟨st, p⟩, fun i h st => st.1, fun i v hv => vals_at r (by simpa using hv)⟩
  | s x t =>
    obtain rfl : xs = signs x := g
    have D := Draws.text (prog := X.prog) (w := X.w) (A := X.A.in1) hh it x t
    have e : (signs x).length = x.cps.size := by unfold signs; simp
    rw [← e] at D
    refine ⟨_, _, D, fun i st => st, fun i h st => st, fun i v hv => ?_⟩
    obtain ⟨c, u, h1, rfl⟩ := hv
    exact ⟨_, signs_get h1, u, rfl⟩
theorem Kd.gives_inj {X : Cx} {pins : List (Addr × Obj)} {σ : L2.St} {H : Hp} {s : Shared} (I : Inv X pins σ H s) {k : Kd} {xs ys : List V} (g : k.gives X.K H xs) (g' : k.gives X.K H ys) : xs = ys := by
  cases k with
  | l a => exact I.list_inj g g'
  | t a => exact I.tuple_inj g g'
  | s x t => exact g.trans g'.symm

/-! ### a walk over a source -/
/-- what a walk of items gives -/
def Itk (K : PySem.W.Frag) (k : Kd) : It :=
  ⟨fun i H => ∃ xs x, k.gives K H xs ∧ xs[i]? = some x, fun i H x H' => H' = H ∧ ∀ xs, k.gives K H xs → xs[i]? = some x, fun i H => ∃ xs, k.gives K H xs ∧ xs.length ≤ i⟩
theorem Turn.imp {P : Program} {w : World} {K : PySem.W.Frag} {tg : Expr} {J J' : It} {fp : List Addr} {it : Addr} {tn : Nat → Heap → Prop} (T : Turn P w K tg J fp it tn) (h1 : ∀ i H, J'.go i H → J.go i H) (h2 : ∀ i H x H', J'.go i H → J.yld i H x H' → J'.yld i H x H') (h3 : ∀ i H, J'.stop i H → J.stop i H) : Turn P w K tg J' fp it tn where
  mem := T.mem
  obj := T.obj
  keep := T.keep
  item := fun X hP hw hK hc i pins s σ H E I hf st hg => thn (T.item X hP hw hK hc i pins s σ H E I hf st (h1 i H hg)) fun r s1 ⟨u, hr, q⟩ => ⟨u, hr, thn q fun _ s2 ⟨x, H', I', rx, y, st', f'⟩ => ⟨x, H', I', rx, h2 i H x H' hg y, st', f'⟩⟩
  done := fun X hP hw hK hc i pins s σ H E I hf st hg => T.done X hP hw hK hc i pins s σ H E I hf st (h3 i H hg)
  self := T.self
theorem turn_kd {P : Program} {w : World} {K : PySem.W.Frag} {tg : Expr} (k : Kd) (it : Addr) : Turn P w K tg (Itk K k) [it] it (fun i h => k.At it i h) := by
  cases k with
  | l a => exact Turn.imp (turn_list a it) (fun i H ⟨xs, x, h⟩ => ⟨xs, x, h⟩) (fun i H x H' _ h => h) fun i H h => h
  | t a => exact Turn.imp (turn_tuple a it) (fun i H ⟨xs, x, h⟩ => ⟨xs, x, h⟩) (fun i H x H' _ h => h) fun i H h => h
  | s x t =>
    have e : (signs x).length = x.cps.size := by unfold signs; simp
    refine Turn.imp (turn_str it x t (strIterType x) (by unfold strIterType; split <;> simp)) (fun i H ⟨xs, y, h, hy⟩ => ?_) (fun i H y H' _ h => ?_) fun i H ⟨xs, h, hl⟩ => ?_
    · obtain rfl : xs = signs x := h
      obtain ⟨hlt, _⟩ := List.getElem?_eq_some_iff.mp hy
      rw [e] at hlt
      exact hlt
    · obtain ⟨h1, c, hcx, hy⟩ := h
      refine ⟨h1, fun xs h => ?_⟩
      obtain rfl : xs = signs x := h
      rw [hy]
      exact signs_get hcx
    · obtain rfl : xs = signs x := h
      rw [e] at hl
      exact hl
/-- a source's value -/
inductive Src (K : PySem.W.Frag) (H : Hp) : V → List V → (Kd → Prop) → Prop
  | l {a : Addr} {xs : List V} : SqL K H a xs → Src K H (.ref a) xs fun k => k = .l a
  | t {a : Addr} {xs : List V} : SqT K H a xs → Src K H (.ref a) xs fun k => k = .t a
  | s {x : Str} : Src K H (.str x) (signs x) fun k => ∃ t, k = .s x t
theorem Src.kd {K : PySem.W.Frag} {H : Hp} {v : V} {xs : List V} {C : Kd → Prop} (h : Src K H v xs C) {u : Value} (r : RelV v u) : ∃ k, C k ∧ k.val = u ∧ k.gives K H xs := by
  cases h with
  | l h => cases r; exact ⟨_, rfl, rfl, h⟩
  | t h => cases r; exact ⟨_, rfl, rfl, h⟩
  | s => obtain ⟨t, rfl⟩ := r; exact ⟨_, ⟨t, rfl⟩, rfl, rfl⟩
section
variable {X : Cx} {tg e e2 e3 : Expr} {p pos : Pos}
def iSrc (K : PySem.W.Frag) (te : TE) : TI := fun σ H R => te σ H fun x H1 => ∃ xs C, Src K H1 x xs C ∧ ∀ k, C k → R (Itk K k) H1
theorem pi_src {te : TE} (he : PE X e te) : PI X tg e (iSrc X.K te) := by
  refine ⟨fun pins s σ H R I h => ?_⟩
  refine thn (he.run pins s σ H _ I h) fun v s1 ⟨y, H1, I1, r1, xs, C, sx, q⟩ => ?_
  obtain ⟨k, hk, rfl, g⟩ := sx.kd r1
  obtain ⟨Hs, B, hs, _⟩ := k.begins I1 g
  exact B.iter _ _ _ _ _ _ hs (pi_one (tk := s1.toks) I1 _ (turn_kd k _) (Kd.start (Heap.get?_push_size _ B.free)) (q k hk))
end

/-! ### enumerate -/
def Iek (K : PySem.W.Frag) (k : Kd) : It :=
  ⟨fun i H => ∃ xs x, k.gives K H xs ∧ xs[i]? = some x, fun i H v H' => ∃ T o x, v = .ref T ∧ H T = none ∧ o.dict = none ∧ H' = upd H T (HO.th o [.int (i : Nat), x]) ∧ ∀ xs, k.gives K H xs → xs[i]? = some x, fun i H => ∃ xs, k.gives K H xs ∧ xs.length = i⟩
theorem lt_of_get {h : Heap} {b : Addr} {o : Obj} (e : h.get? b = some o) : b < h.objs.size := Heap.lt_size e
theorem turn_ek {P : Program} {w : World} {K : PySem.W.Frag} {elts : List Expr} {kk : Nat} {tpos : Pos} (k : Kd) {en it : Addr} (hne : en ≠ it) (h1 : en ∉ k.ad) (h2 : it ∉ k.ad) :
    Turn P w K (.Tuple elts kk tpos) (Iek K k) [en, it] en (fun i h => (∃ old, IsEnum h en it ((i : Nat) : Int) old) ∧ k.At it i h) where
  mem := List.mem_cons_self
  obj := fun i h ⟨⟨old, he⟩, hi⟩ b hb => by
    rcases List.mem_cons.mp hb with rfl | hb
    · exact ⟨_, he, nofun⟩
    · rw [List.mem_singleton.mp hb]
      obtain ⟨o, vs, ho, hd⟩ := hi.rec'
      exact ⟨o, ho, fun v q => by rw [hd] at q; cases q⟩
  keep := fun i h h' ⟨⟨old, he⟩, hi⟩ kp => ⟨⟨old, kp en List.mem_cons_self _ he⟩, hi.at fun o q => kp it (by simp) o q⟩
  item := by
    rintro X rfl rfl rfl hc i pins s σ H E I hf ⟨⟨old, he⟩, hi⟩ ⟨xs, x, g, hx⟩
    obtain ⟨Pd, St, D, s1, s2, s3⟩ := k.draws I hc g it h2
    have hlt : i < xs.length := (List.getElem?_eq_some_iff.mp hx).1
    have hel := lt_of_get he
    obtain ⟨oi, vi, hoi, _⟩ := hi.rec'
    have hil := lt_of_get hoi
    refine wpAny_pyNext_enum_itemD D he (s1 i hi) hlt hne (by simp [hne, h1]) fun u h' tk hP ho st' hT hsz hk => ?_
    obtain ⟨y, hy, ru⟩ := s3 i u hP
    obtain rfl : x = y := Option.some.inj (hx.symm.trans hy)
    refine ⟨_, rfl, wpAny_letOwnedTupleGo_enum (s := { s with heap := h', toks := tk + 1 }) ho fun h'' he' sb => ?_⟩
    have hT2 := (sb.2 s.heap.objs.size (Nat.ne_of_gt hel)).trans hT
    have new : ObjOk X.prog X.w (upd H s.heap.objs.size (HO.th (tob [.int i tk, u]) [.int (i : Nat), x])) h'' s.heap.objs.size (HO.th (tob [.int i tk, u]) [.int (i : Nat), x]) :=
      th_ok (by show 2 ≤ sizeLine; decide) (.cons ⟨_, rfl⟩ (.cons ru .nil)) hT2
    have I1 : Inv X pins σ (upd H s.heap.objs.size (HO.th (tob [.int i tk, u]) [.int (i : Nat), x])) { s with heap := h'', toks := tk + 1 } :=
      I.turnedNew (ch := [en, it]) (fun b ob hb q => by
        have n1 : b ≠ en := fun z => hb (by simp [z])
        have n2 : b ≠ it := fun z => hb (by simp [z])
        exact (sb.2 b n1).trans (hk b ob n1 n2 q)) hf (Nat.le_refl _) new
    refine ⟨.ref s.heap.objs.size, _, I1, rfl, ⟨_, _, x, rfl, I.hok.fresh (Nat.le_refl _), rfl, rfl, fun ys hy => by rw [k.gives_inj I hy g]; exact hx⟩, ⟨⟨u, ?_⟩, (s2 _ _ st').at fun o q => (sb.2 it (Ne.symm hne)).trans q⟩, fun b hb => ?_⟩
    · have e1 : ((i + 1 : Nat) : Int) = (i : Int) + 1 := by omega
      rw [e1]; exact he'
    · have hb' : b < s.heap.objs.size := by
        rcases List.mem_cons.mp hb with rfl | hb
        · exact hel
        · rw [List.mem_singleton.mp hb]; exact hil
      rw [upd_ne (Nat.ne_of_lt hb')]
      exact (hf b hb).1
  done := by
    rintro X rfl rfl rfl hc i pins s σ H E I hf ⟨⟨old, he⟩, hi⟩ ⟨xs, g, hl⟩
    obtain ⟨Pd, St, D, s1, s2, s3⟩ := k.draws I hc g it h2
    obtain ⟨f0, f1, f2, f3, f4, f5⟩ := hf it (by simp)
    subst hl
    exact wpAny_pyNext_enum_endD D he (s1 _ hi) fun h' eb => ⟨rfl, I.turned (t' := s.toks) (fun b o hb q => eb b o hb q) f0 f1 f3 f4 f5⟩
  self := fun A i s Q E ⟨⟨_, he⟩, _⟩ h => wpAny_pyIter_enum he h
theorem enum_meets1 {v : Value} {o : Obj} {Hs : Heap → Prop} (B : Begins v o Hs) :
    Meets (Builtin.«enumerate.__new__» ⟨[.type "enumerate", v], []⟩) (fun _ R s => Hs s.heap ∧
      R (.ok (.ret (.ref (s.heap.push o).objs.size))) { s with heap := (s.heap.push o).push { cls := .type "enumerate", data := .fields #[.none, .bool false, .ref s.heap.objs.size, rawInt 0, .none, .none] } }) :=
  .of_wp fun prog w A R s hh => by
    obtain ⟨hp, gn, dr, tk, os⟩ := s
    obtain ⟨hv, h⟩ := hh
    have hsub := sub_enumerate
    have itv : ∀ {A' : Around} {E : Value → Shared → Prop} {Q : Value → Shared → Prop}, Q (.ref hp.objs.size) ⟨hp.push o, gn, dr, tk, os⟩ → wpAny (model prog w) A' (pyIter v) Q E ⟨hp, gn, dr, tk, os⟩ :=
      fun q => B.iter prog w _ _ ⟨hp, gn, dr, tk, os⟩ _ hv q
    wp_walk using itv
    refine wpAny_stack_any fun fr => wpAny_pure ?_
    split
    · rename_i c0 _ _ _ _ _
      cases (c0 == Value.type "enumerate") <;> (wp_walk using itv; exact ⟨_, rfl, h⟩)
    · wp_walk using itv
      exact ⟨_, rfl, h⟩
section
variable {prog : Program} {w : World} {A : Around} {E : Value → Shared → Prop} {s : Shared}
theorem enum_one {v : Value} {o : Obj} {Hs : Heap → Prop} {Q : Value → Shared → Prop} (B : Begins v o Hs) (hv : Hs s.heap)
    (h : ∀ h', IsEnum h' (s.heap.objs.size + 1) s.heap.objs.size 0 .none → h'.get? s.heap.objs.size = some o → (∀ b ob, s.heap.get? b = some ob → h'.get? b = some ob) → Q (.ref (s.heap.objs.size + 1)) { s with heap := h' }) :
    wpAny (model prog w) A (call (.type "enumerate") [v]) Q E s := by
  refine callType_new F.called_enumerate (by decide) (F.typeCall_enumerate_1 _) (F.newCall_enumerate_1 _) (fun obj => F.args_object_init_2 obj _) F.entry_enumerate_new (enum_meets1 B) ⟨hv, ?_⟩
  have z1 : (s.heap.push o).objs.size = s.heap.objs.size + 1 := Heap.size_push ..
  have g1 := Heap.get?_push_size (s.heap.push o) (o := { cls := .type "enumerate", data := .fields #[.none, .bool false, .ref s.heap.objs.size, rawInt 0, .none, .none] }) rfl
  show _ ∧ _
  rw [z1] at g1 ⊢
  exact ⟨⟨_, g1, rfl⟩, h _ g1 (Heap.get?_push_of_some _ (Heap.get?_push_size _ B.free)) fun b ob e => Heap.get?_push_of_some _ (Heap.get?_push_of_some _ e)⟩
end
section
variable {X : Cx} {tg e e2 e3 : Expr} {elts : List Expr} {kk : Nat} {p pos tpos : Pos}
def iEnumS (K : PySem.W.Frag) (ta : TA) : TI := fun σ H R => ta σ H fun vs H1 => ∃ x xs C, vs = [x] ∧ Src K H1 x xs C ∧ ∀ k, C k → R (Iek K k) H1
theorem pi_enumS {ta : TA} (hg : Gl X "enumerate") (hm : X.mg "enumerate" = none) (ha : PA X [e] ta) (hs : starEach [e] X.env = [(false, eval e X.env)] := by rfl) : PI X (.Tuple elts kk tpos) (.Call (.Name "enumerate" p) [e] [] pos) (iEnumS X.K ta) := by
  refine ⟨fun pins s σ H R I h => ?_⟩
  refine Call_ (ld_blt I hg hm boot_enumerate (PyProof.Rows.callWith_type1 (thn (ha.run pos pins s σ H _ I h) fun us s1 ⟨vs, H1, I1, r1, x, xs, C, ev, sx, q⟩ => ?_) hs rfl))
  subst ev
  obtain ⟨u, rfl, ru⟩ := vals1 r1
  obtain ⟨k, hk, rfl, g⟩ := sx.kd ru
  obtain ⟨Hs, B, hst, hlt⟩ := k.begins I1 g
  refine enum_one B hst fun h' he hit kp => wpAny_pyIter_enum he ?_
  have old : ∀ b ∈ k.ad, b ≠ s1.heap.objs.size ∧ b ≠ s1.heap.objs.size + 1 := fun b hb => by
    have z : (b : Nat) < s1.heap.objs.size := hlt b hb
    exact ⟨Nat.ne_of_lt z, Nat.ne_of_lt (Nat.lt_succ_of_lt z)⟩
  refine ⟨s1.heap.objs.size + 1, [s1.heap.objs.size + 1, s1.heap.objs.size], _, _, H1, rfl, I1.kept (t' := s1.toks) kp, turn_ek k (Nat.succ_ne_self _) (fun hm => (old _ hm).2 rfl) (fun hm => (old _ hm).1 rfl), ⟨⟨.none, he⟩, Kd.start hit⟩, fun b hb => ?_, q k hk⟩
  have hle : s1.heap.objs.size ≤ b := by
    rcases List.mem_cons.mp hb with z | z
    · rw [z]; exact Nat.le_succ _
    · rw [List.mem_singleton.mp z]; exact Nat.le_refl _
  exact I1.fpOk hle (I1.hok.fresh hle)
end
end VL
set_option Elab.async false
set_option linter.all false
set_option maxRecDepth 100000
set_option maxHeartbeats 4000000
namespace VL
open PySem PySem.Spec PyProof.Rows L2

/-! ### zip of two, of three sources -/
def Iz2 (K : PySem.W.Frag) (k1 k2 : Kd) : It :=
  ⟨fun i H => ∃ xs ys x y, k1.gives K H xs ∧ k2.gives K H ys ∧ xs[i]? = some x ∧ ys[i]? = some y,
    fun i H v H' => ∃ T o x y, v = .ref T ∧ H T = none ∧ o.dict = none ∧ H' = upd H T (HO.th o [x, y]) ∧ (∀ xs, k1.gives K H xs → xs[i]? = some x) ∧ ∀ ys, k2.gives K H ys → ys[i]? = some y,
    fun i H => ∃ xs ys, k1.gives K H xs ∧ k2.gives K H ys ∧ i ≤ xs.length ∧ i ≤ ys.length ∧ (i = xs.length ∨ i = ys.length)⟩
/-- the addresses of a zip's own objects -/
structure Zp2 (k1 k2 : Kd) (z TI TO i1 i2 : Addr) : Prop where
  sep : ZipSep2 z TI TO i1 i2 (i1 :: k1.ad) (i2 :: k2.ad)
  n1 : i1 ∉ k1.ad
  n2 : i2 ∉ k2.ad
theorem turn_z2 {P : Program} {w : World} {K : PySem.W.Frag} {elts : List Expr} {kk : Nat} {tpos : Pos} (k1 k2 : Kd) {z TI TO i1 i2 : Addr} (S : Zp2 k1 k2 z TI TO i1 i2) :
    Turn P w K (.Tuple elts kk tpos) (Iz2 K k1 k2) [z, TI, TO, i1, i2] z (fun i h => IsZip h z TI TO .none ∧ IsTupOf2 h TI (.ref i1) (.ref i2) ∧ (∃ x y, IsTupOf2 h TO x y) ∧ k1.At i1 i h ∧ k2.At i2 i h) where
  mem := List.mem_cons_self
  obj := fun i h ⟨hz, hI, ⟨x, y, hO⟩, a1, a2⟩ b hb => by
    obtain ⟨o1, v1, e1, d1⟩ := a1.rec'
    obtain ⟨o2, v2, e2, d2⟩ := a2.rec'
    simp only [List.mem_cons, List.not_mem_nil, or_false] at hb
    rcases hb with rfl | rfl | rfl | rfl | rfl
    · exact ⟨_, hz, nofun⟩
    · exact ⟨_, hI, nofun⟩
    · exact ⟨_, hO, nofun⟩
    · exact ⟨o1, e1, fun v q => by rw [d1] at q; cases q⟩
    · exact ⟨o2, e2, fun v q => by rw [d2] at q; cases q⟩
  keep := fun i h h' ⟨hz, hI, ⟨x, y, hO⟩, a1, a2⟩ kp => ⟨kp z (by simp) _ hz, kp TI (by simp) _ hI, ⟨x, y, kp TO (by simp) _ hO⟩, a1.at fun o => kp i1 (by simp) o, a2.at fun o => kp i2 (by simp) o⟩
  item := by
    rintro X rfl rfl rfl hc i pins s σ H E I hf ⟨hz, hI, ⟨x0, y0, hO⟩, a1, a2⟩ ⟨xs, ys, x, y, g1, g2, hx, hy⟩
    obtain ⟨P1, S1, D1, in1, out1, at1⟩ := k1.draws I hc g1 i1 S.n1
    obtain ⟨P2, S2, D2, in2, out2, at2⟩ := k2.draws I hc g2 i2 S.n2
    have hl1 : i < xs.length := (List.getElem?_eq_some_iff.mp hx).1
    have hl2 : i < ys.length := (List.getElem?_eq_some_iff.mp hy).1
    obtain ⟨o1, v1, e1, d1⟩ := a1.rec'
    obtain ⟨o2, v2, e2, d2⟩ := a2.rec'
    have zl := lt_of_get hz
    have zlt : ∀ c ∈ [z, TI, TO, i1, i2], c < s.heap.objs.size := fun c hc => by
      simp only [List.mem_cons, List.not_mem_nil, or_false] at hc
      rcases hc with rfl | rfl | rfl | rfl | rfl
      · exact zl
      · exact lt_of_get hI
      · exact lt_of_get hO
      · exact lt_of_get e1
      · exact lt_of_get e2
    refine wpAny_pyNext_zipD2_item S.sep D1 D2 hz hI hO (in1 i a1) (in2 i a2) hl1 hl2 fun u1 u2 h' tk p1 p2 hz' hO' st1 st2 hT hsz hk => ?_
    obtain ⟨y1, q1, r1⟩ := at1 i u1 p1
    obtain ⟨y2, q2, r2⟩ := at2 i u2 p2
    obtain rfl : x = y1 := Option.some.inj (hx.symm.trans q1)
    obtain rfl : y = y2 := Option.some.inj (hy.symm.trans q2)
    refine ⟨_, rfl, wpAny_letOwnedTupleGo_zip (s := { s with heap := h', toks := tk }) hz' fun h'' hz'' sb => ?_⟩
    have hT2 := (sb.2 s.heap.objs.size (Nat.ne_of_gt zl)).trans hT
    have I1 : Inv X pins σ (upd H s.heap.objs.size (HO.th (tob [u1, u2]) [x, y])) { s with heap := h'', toks := tk } :=
      I.turnedNew (ch := [z, TI, TO, i1, i2]) (fun c o hb q => by
        simp only [List.mem_cons, List.not_mem_nil, or_false, not_or] at hb
        obtain ⟨n1, n2, n3, n4, n5⟩ := hb
        exact (sb.2 c n1).trans (hk c o n1 n3 n4 n5 q)) hf (Nat.le_refl _) (th_ok (by show 2 ≤ sizeLine; decide) (.cons r1 (.cons r2 .nil)) hT2)
    refine ⟨.ref s.heap.objs.size, _, I1, rfl, ⟨_, _, x, y, rfl, I.hok.fresh (Nat.le_refl _), rfl, rfl, fun l hl => by rw [k1.gives_inj I hl g1]; exact hx, fun l hl => by rw [k2.gives_inj I hl g2]; exact hy⟩, ⟨hz'', ?_, ⟨u1, u2, ?_⟩, (out1 _ _ st1).at fun o q => ?_, (out2 _ _ st2).at fun o q => ?_⟩, fun c hc => ?_⟩
    · exact (sb.2 _ S.sep.TIz).trans (hk _ _ S.sep.TIz S.sep.TITO S.sep.TIi1 S.sep.TIi2 hI)
    · exact (sb.2 _ S.sep.TOz).trans hO'
    · exact (sb.2 i1 (fun e => S.sep.zi1 e.symm)).trans q
    · exact (sb.2 i2 (fun e => S.sep.zi2 e.symm)).trans q
    · rw [upd_ne (Nat.ne_of_lt (zlt c hc))]
      exact (hf c hc).1
  done := by
    rintro X rfl rfl rfl hc i pins s σ H E I hf ⟨hz, hI, ⟨x0, y0, hO⟩, a1, a2⟩ ⟨xs, ys, g1, g2, hl1, hl2, hend⟩
    obtain ⟨P1, S1, D1, in1, out1, at1⟩ := k1.draws I hc g1 i1 S.n1
    obtain ⟨P2, S2, D2, in2, out2, at2⟩ := k2.draws I hc g2 i2 S.n2
    exact wpAny_pyNext_zipD2_end S.sep D1 D2 hz hI hO (in1 i a1) (in2 i a2) hl1 hl2 hend fun h' tk hk => ⟨rfl, I.turnedL (t' := tk) (ch := [z, TI, TO, i1, i2]) (fun c o hb q => by
      simp only [List.mem_cons, List.not_mem_nil, or_false, not_or] at hb
      obtain ⟨n1, n2, n3, n4, n5⟩ := hb
      exact hk c o n1 n3 n4 n5 q) hf⟩
  self := fun A i s Q E ⟨hz, _⟩ h => wpAny_pyIter_zip hz h

def Iz3 (K : PySem.W.Frag) (k1 k2 k3 : Kd) : It :=
  ⟨fun i H => ∃ xs ys zs x y u, k1.gives K H xs ∧ k2.gives K H ys ∧ k3.gives K H zs ∧ xs[i]? = some x ∧ ys[i]? = some y ∧ zs[i]? = some u,
    fun i H v H' => ∃ T o x y u, v = .ref T ∧ H T = none ∧ o.dict = none ∧ H' = upd H T (HO.th o [x, y, u]) ∧ (∀ xs, k1.gives K H xs → xs[i]? = some x) ∧ (∀ ys, k2.gives K H ys → ys[i]? = some y) ∧ ∀ zs, k3.gives K H zs → zs[i]? = some u,
    fun i H => ∃ xs ys zs, k1.gives K H xs ∧ k2.gives K H ys ∧ k3.gives K H zs ∧ i ≤ xs.length ∧ i ≤ ys.length ∧ i ≤ zs.length ∧ (i = xs.length ∨ i = ys.length ∨ i = zs.length)⟩
structure Zp3 (k1 k2 k3 : Kd) (z TI TO i1 i2 i3 : Addr) : Prop where
  sep : ZipSep3 z TI TO i1 i2 i3 (i1 :: k1.ad) (i2 :: k2.ad) (i3 :: k3.ad)
  n1 : i1 ∉ k1.ad
  n2 : i2 ∉ k2.ad
  n3 : i3 ∉ k3.ad
theorem turn_z3 {P : Program} {w : World} {K : PySem.W.Frag} {elts : List Expr} {kk : Nat} {tpos : Pos} (k1 k2 k3 : Kd) {z TI TO i1 i2 i3 : Addr} (S : Zp3 k1 k2 k3 z TI TO i1 i2 i3) :
    Turn P w K (.Tuple elts kk tpos) (Iz3 K k1 k2 k3) [z, TI, TO, i1, i2, i3] z (fun i h => IsZip h z TI TO .none ∧ IsTupOf3 h TI (.ref i1) (.ref i2) (.ref i3) ∧ (∃ x y u, IsTupOf3 h TO x y u) ∧ k1.At i1 i h ∧ k2.At i2 i h ∧ k3.At i3 i h) where
  mem := List.mem_cons_self
  obj := fun i h ⟨hz, hI, ⟨x, y, u, hO⟩, a1, a2, a3⟩ b hb => by
    obtain ⟨o1, v1, e1, d1⟩ := a1.rec'
    obtain ⟨o2, v2, e2, d2⟩ := a2.rec'
    obtain ⟨o3, v3, e3, d3⟩ := a3.rec'
    simp only [List.mem_cons, List.not_mem_nil, or_false] at hb
    rcases hb with rfl | rfl | rfl | rfl | rfl | rfl
    · exact ⟨_, hz, nofun⟩
    · exact ⟨_, hI, nofun⟩
    · exact ⟨_, hO, nofun⟩
    · exact ⟨o1, e1, fun v q => by rw [d1] at q; cases q⟩
    · exact ⟨o2, e2, fun v q => by rw [d2] at q; cases q⟩
    · exact ⟨o3, e3, fun v q => by rw [d3] at q; cases q⟩
  keep := fun i h h' ⟨hz, hI, ⟨x, y, u, hO⟩, a1, a2, a3⟩ kp => ⟨kp z (by simp) _ hz, kp TI (by simp) _ hI, ⟨x, y, u, kp TO (by simp) _ hO⟩, a1.at fun o => kp i1 (by simp) o, a2.at fun o => kp i2 (by simp) o, a3.at fun o => kp i3 (by simp) o⟩
  item := by
    rintro X rfl rfl rfl hc i pins s σ H E I hf ⟨hz, hI, ⟨x0, y0, u0, hO⟩, a1, a2, a3⟩ ⟨xs, ys, zs, x, y, u, g1, g2, g3, hx, hy, hu⟩
    obtain ⟨P1, S1, D1, in1, out1, at1⟩ := k1.draws I hc g1 i1 S.n1
    obtain ⟨P2, S2, D2, in2, out2, at2⟩ := k2.draws I hc g2 i2 S.n2
    obtain ⟨P3, S3, D3, in3, out3, at3⟩ := k3.draws I hc g3 i3 S.n3
    have hl1 : i < xs.length := (List.getElem?_eq_some_iff.mp hx).1
    have hl2 : i < ys.length := (List.getElem?_eq_some_iff.mp hy).1
    have hl3 : i < zs.length := (List.getElem?_eq_some_iff.mp hu).1
    obtain ⟨o1, v1, e1, d1⟩ := a1.rec'
    obtain ⟨o2, v2, e2, d2⟩ := a2.rec'
    obtain ⟨o3, v3, e3, d3⟩ := a3.rec'
    have zl := lt_of_get hz
    have zlt : ∀ c ∈ [z, TI, TO, i1, i2, i3], c < s.heap.objs.size := fun c hc => by
      simp only [List.mem_cons, List.not_mem_nil, or_false] at hc
      rcases hc with rfl | rfl | rfl | rfl | rfl | rfl
      · exact zl
      · exact lt_of_get hI
      · exact lt_of_get hO
      · exact lt_of_get e1
      · exact lt_of_get e2
      · exact lt_of_get e3
    refine wpAny_pyNext_zipD3_item S.sep D1 D2 D3 hz hI hO (in1 i a1) (in2 i a2) (in3 i a3) hl1 hl2 hl3 fun u1 u2 u3 h' tk p1 p2 p3 hz' hO' st1 st2 st3 hT hsz hk => ?_
    obtain ⟨y1, q1, r1⟩ := at1 i u1 p1
    obtain ⟨y2, q2, r2⟩ := at2 i u2 p2
    obtain ⟨y3, q3, r3⟩ := at3 i u3 p3
    obtain rfl : x = y1 := Option.some.inj (hx.symm.trans q1)
    obtain rfl : y = y2 := Option.some.inj (hy.symm.trans q2)
    obtain rfl : u = y3 := Option.some.inj (hu.symm.trans q3)
    refine ⟨_, rfl, wpAny_letOwnedTupleGo_zip (s := { s with heap := h', toks := tk }) hz' fun h'' hz'' sb => ?_⟩
    have hT2 := (sb.2 s.heap.objs.size (Nat.ne_of_gt zl)).trans hT
    have I1 : Inv X pins σ (upd H s.heap.objs.size (HO.th (tob [u1, u2, u3]) [x, y, u])) { s with heap := h'', toks := tk } :=
      I.turnedNew (ch := [z, TI, TO, i1, i2, i3]) (fun c o hb q => by
        simp only [List.mem_cons, List.not_mem_nil, or_false, not_or] at hb
        obtain ⟨n1, n2, n3, n4, n5, n6⟩ := hb
        exact (sb.2 c n1).trans (hk c o n1 n3 n4 n5 n6 q)) hf (Nat.le_refl _) (th_ok (by show 3 ≤ sizeLine; decide) (.cons r1 (.cons r2 (.cons r3 .nil))) hT2)
    refine ⟨.ref s.heap.objs.size, _, I1, rfl, ⟨_, _, x, y, u, rfl, I.hok.fresh (Nat.le_refl _), rfl, rfl, fun l hl => by rw [k1.gives_inj I hl g1]; exact hx, fun l hl => by rw [k2.gives_inj I hl g2]; exact hy, fun l hl => by rw [k3.gives_inj I hl g3]; exact hu⟩,
      ⟨hz'', ?_, ⟨u1, u2, u3, ?_⟩, (out1 _ _ st1).at fun o q => ?_, (out2 _ _ st2).at fun o q => ?_, (out3 _ _ st3).at fun o q => ?_⟩, fun c hc => ?_⟩
    · exact (sb.2 _ S.sep.TIz).trans (hk _ _ S.sep.TIz S.sep.TITO S.sep.TIi1 S.sep.TIi2 S.sep.TIi3 hI)
    · exact (sb.2 _ S.sep.TOz).trans hO'
    · exact (sb.2 i1 (fun e => S.sep.zi1 e.symm)).trans q
    · exact (sb.2 i2 (fun e => S.sep.zi2 e.symm)).trans q
    · exact (sb.2 i3 (fun e => S.sep.zi3 e.symm)).trans q
    · rw [upd_ne (Nat.ne_of_lt (zlt c hc))]
      exact (hf c hc).1
  done := by
    rintro X rfl rfl rfl hc i pins s σ H E I hf ⟨hz, hI, ⟨x0, y0, u0, hO⟩, a1, a2, a3⟩ ⟨xs, ys, zs, g1, g2, g3, hl1, hl2, hl3, hend⟩
    obtain ⟨P1, S1, D1, in1, out1, at1⟩ := k1.draws I hc g1 i1 S.n1
    obtain ⟨P2, S2, D2, in2, out2, at2⟩ := k2.draws I hc g2 i2 S.n2
    obtain ⟨P3, S3, D3, in3, out3, at3⟩ := k3.draws I hc g3 i3 S.n3
    exact wpAny_pyNext_zipD3_end S.sep D1 D2 D3 hz hI hO (in1 i a1) (in2 i a2) (in3 i a3) hl1 hl2 hl3 hend fun h' tk hk => ⟨rfl, I.turnedL (t' := tk) (ch := [z, TI, TO, i1, i2, i3]) (fun c o hb q => by
      simp only [List.mem_cons, List.not_mem_nil, or_false, not_or] at hb
      obtain ⟨n1, n2, n3, n4, n5, n6⟩ := hb
      exact hk c o n1 n3 n4 n5 n6 q) hf⟩
  self := fun A i s Q E ⟨hz, _⟩ h => wpAny_pyIter_zip hz h

section
variable {X : Cx} {tg e e2 e3 : Expr} {elts : List Expr} {kk : Nat} {p pos tpos : Pos}
theorem vals2 {a b : V} {us : List Value} (h : Vals [a, b] us) : ∃ u v, us = [u, v] ∧ RelV a u ∧ RelV b v := by
  cases h with
  | cons r t => cases t with
    | cons r2 t => cases t; exact ⟨_, _, rfl, r, r2⟩
theorem vals3 {a b c : V} {us : List Value} (h : Vals [a, b, c] us) : ∃ u v w, us = [u, v, w] ∧ RelV a u ∧ RelV b v ∧ RelV c w := by
  cases h with
  | cons r t => obtain ⟨v, w, rfl, r2, r3⟩ := vals2 t; exact ⟨_, _, _, rfl, r, r2, r3⟩
def iZip2 (K : PySem.W.Frag) (ta : TA) : TI := fun σ H R => ta σ H fun vs H1 => ∃ x y xs ys C1 C2, vs = [x, y] ∧ Src K H1 x xs C1 ∧ Src K H1 y ys C2 ∧ ∀ k1 k2, C1 k1 → C2 k2 → R (Iz2 K k1 k2) H1
theorem pi_zip2 {ta : TA} (hg : Gl X "zip") (hm : X.mg "zip" = none) (ha : PA X [e, e2] ta) (hs : starEach [e, e2] X.env = (false, eval e X.env) :: starEach [e2] X.env := by rfl) (hpl : (backTo pos (starEach [e2] X.env)).any (·.1) = false := by rfl) :
    PI X (.Tuple elts kk tpos) (.Call (.Name "zip" p) [e, e2] [] pos) (iZip2 X.K ta) := by
  refine ⟨fun pins s σ H R I h => ?_⟩
  refine Call_ (ld_blt I hg hm PyProof.Rows.boot_zip (PyProof.Rows.callWith_type1 (thn (ha.run pos pins s σ H _ I h) fun us s1 ⟨vs, H1, I1, r1, x, y, xs, ys, C1, C2, ev, sx, sy, q⟩ => ?_) hs hpl))
  subst ev
  obtain ⟨u, v, rfl, ru, rv⟩ := vals2 r1
  obtain ⟨k1, h1, rfl, g1⟩ := sx.kd ru
  obtain ⟨k2, h2, rfl, g2⟩ := sy.kd rv
  obtain ⟨Hs1, B1, hs1, lt1⟩ := k1.begins I1 g1
  obtain ⟨Hs2, B2, hs2, lt2⟩ := k2.begins I1 g2
  refine zip_begins2 B1 B2 hs1 hs2 fun h' hz hI hO e1 e2 hsz kp => wpAny_pyIter_zip hz ?_
  have no : ∀ {k : Kd} (j : Nat), (∀ b ∈ k.ad, b < s1.heap.objs.size) → (s1.heap.objs.size + j) ∉ k.ad := fun j hl hm => by
    have z : (s1.heap.objs.size + j : Nat) < s1.heap.objs.size := hl _ hm
    omega
  refine ⟨s1.heap.objs.size + 4, [s1.heap.objs.size + 4, s1.heap.objs.size + 2, s1.heap.objs.size + 3, s1.heap.objs.size, s1.heap.objs.size + 1], _, _, H1, rfl, I1.kept (t' := s1.toks) kp, turn_z2 k1 k2 ⟨zip_sep2 lt1 lt2, no 0 lt1, no 1 lt2⟩, ⟨hz, hI, ⟨_, _, hO⟩, Kd.start e1, Kd.start e2⟩, fun b hb => ?_, q k1 k2 h1 h2⟩
  have hle : s1.heap.objs.size ≤ b := by
    simp only [List.mem_cons, List.not_mem_nil, or_false] at hb
    rcases hb with z | z | z | z | z <;> (rw [z]; first | exact Nat.le_refl _ | exact Nat.le_add_right _ _)
  exact I1.fpOk hle (I1.hok.fresh hle)
def iZip3 (K : PySem.W.Frag) (ta : TA) : TI := fun σ H R => ta σ H fun vs H1 => ∃ x y z xs ys zs C1 C2 C3, vs = [x, y, z] ∧ Src K H1 x xs C1 ∧ Src K H1 y ys C2 ∧ Src K H1 z zs C3 ∧ ∀ k1 k2 k3, C1 k1 → C2 k2 → C3 k3 → R (Iz3 K k1 k2 k3) H1
theorem pi_zip3 {ta : TA} (hg : Gl X "zip") (hm : X.mg "zip" = none) (ha : PA X [e, e2, e3] ta) (hs : starEach [e, e2, e3] X.env = (false, eval e X.env) :: starEach [e2, e3] X.env := by rfl) (hpl : (backTo pos (starEach [e2, e3] X.env)).any (·.1) = false := by rfl) :
    PI X (.Tuple elts kk tpos) (.Call (.Name "zip" p) [e, e2, e3] [] pos) (iZip3 X.K ta) := by
  refine ⟨fun pins s σ H R I h => ?_⟩
  refine Call_ (ld_blt I hg hm PyProof.Rows.boot_zip (PyProof.Rows.callWith_type1 (thn (ha.run pos pins s σ H _ I h) fun us s1 ⟨vs, H1, I1, r1, x, y, z, xs, ys, zs, C1, C2, C3, ev, sx, sy, sz, q⟩ => ?_) hs hpl))
  subst ev
  obtain ⟨u, v, w, rfl, ru, rv, rw⟩ := vals3 r1
  obtain ⟨k1, h1, rfl, g1⟩ := sx.kd ru
  obtain ⟨k2, h2, rfl, g2⟩ := sy.kd rv
  obtain ⟨k3, h3, rfl, g3⟩ := sz.kd rw
  obtain ⟨Hs1, B1, hs1, lt1⟩ := k1.begins I1 g1
  obtain ⟨Hs2, B2, hs2, lt2⟩ := k2.begins I1 g2
  obtain ⟨Hs3, B3, hs3, lt3⟩ := k3.begins I1 g3
  refine zip_begins3 B1 B2 B3 hs1 hs2 hs3 fun h' hz hI hO e1 e2 e3 hsz kp => wpAny_pyIter_zip hz ?_
  have no : ∀ {k : Kd} (j : Nat), (∀ b ∈ k.ad, b < s1.heap.objs.size) → (s1.heap.objs.size + j) ∉ k.ad := fun j hl hm => by
    have z : (s1.heap.objs.size + j : Nat) < s1.heap.objs.size := hl _ hm
    omega
  refine ⟨s1.heap.objs.size + 5, [s1.heap.objs.size + 5, s1.heap.objs.size + 3, s1.heap.objs.size + 4, s1.heap.objs.size, s1.heap.objs.size + 1, s1.heap.objs.size + 2], _, _, H1, rfl, I1.kept (t' := s1.toks) kp, turn_z3 k1 k2 k3 ⟨zip_sep3 lt1 lt2 lt3, no 0 lt1, no 1 lt2, no 2 lt3⟩, ⟨hz, hI, ⟨_, _, _, hO⟩, Kd.start e1, Kd.start e2, Kd.start e3⟩, fun b hb => ?_, q k1 k2 k3 h1 h2 h3⟩
  have hle : s1.heap.objs.size ≤ b := by
    simp only [List.mem_cons, List.not_mem_nil, or_false] at hb
    rcases hb with z | z | z | z | z | z <;> (rw [z]; first | exact Nat.le_refl _ | exact Nat.le_add_right _ _)
  exact I1.fpOk hle (I1.hok.fresh hle)
end
end VL
set_option Elab.async false
set_option linter.all false
set_option maxRecDepth 100000
set_option maxHeartbeats 4000000
namespace VL
open PySem PySem.Spec PyProof.Rows L2

/-! ### the items of plain data -/
def signsD (x : Str) : List PyData := x.cps.toList.map fun c => PyData.str (mkS [c])
@[simp] def itemsOf : PyData → Option (List PyData)
  | .list xs => some xs
  | .tuple xs => some xs
  | .str x => some (signsD x)
  | _ => none
def enumP (xs : List PyData) : List PyData := xs.zipIdx.map fun p => .tuple [.int (p.2 : Nat), p.1]
def zip2P (xs ys : List PyData) : List PyData := (xs.zip ys).map fun p => .tuple [p.1, p.2]
def zip3P (xs ys zs : List PyData) : List PyData := (xs.zip (ys.zip zs)).map fun p => .tuple [p.1, p.2.1, p.2.2]
def rangeP (i : Int) (n : Nat) : List PyData := (List.range n).map fun k => .int (i + (k : Nat))
theorem enumP_get {xs : List PyData} {k : Nat} {d : PyData} (h : (enumP xs)[k]? = some d) : ∃ x, xs[k]? = some x ∧ d = .tuple [.int (k : Nat), x] := by
  unfold enumP at h
  rw [List.getElem?_map, List.getElem?_zipIdx] at h
  cases e : xs[k]? with
  | none => rw [e] at h; cases h
  | some x => rw [e] at h; cases h; exact ⟨x, rfl, by simp⟩
theorem zip2P_get {xs ys : List PyData} {k : Nat} {d : PyData} (h : (zip2P xs ys)[k]? = some d) : ∃ x y, xs[k]? = some x ∧ ys[k]? = some y ∧ d = .tuple [x, y] := by
  unfold zip2P at h
  rw [List.getElem?_map] at h
  cases e : (xs.zip ys)[k]? with
  | none => rw [e] at h; cases h
  | some x =>
    rw [e] at h; cases h
    rw [List.getElem?_zip_eq_some] at e
    exact ⟨x.1, x.2, e.1, e.2, rfl⟩
theorem zip3P_get {xs ys zs : List PyData} {k : Nat} {d : PyData} (h : (zip3P xs ys zs)[k]? = some d) : ∃ x y u, xs[k]? = some x ∧ ys[k]? = some y ∧ zs[k]? = some u ∧ d = .tuple [x, y, u] := by
  unfold zip3P at h
  rw [List.getElem?_map] at h
  cases e : (xs.zip (ys.zip zs))[k]? with
  | none => rw [e] at h; cases h
  | some x =>
    rw [e] at h; cases h
    rw [List.getElem?_zip_eq_some, List.getElem?_zip_eq_some] at e
    exact ⟨x.1, x.2.1, x.2.2, e.1, e.2.1, e.2.2, rfl⟩
theorem rangeP_get {i : Int} {n k : Nat} {d : PyData} (h : (rangeP i n)[k]? = some d) : k < n ∧ d = .int (i + (k : Nat)) := by
  unfold rangeP at h
  rw [List.getElem?_map] at h
  by_cases hk : k < n
  · rw [List.getElem?_range hk] at h; cases h; exact ⟨hk, rfl⟩
  · rw [List.getElem?_eq_none (by simp; omega)] at h; cases h

/-! ### the walks, over data -/
section
variable {b : Bg} {Y Z : Addr → Prop} {H : Hp} {K : PySem.W.Frag}
theorem rqs_signs {x : Str} : Rqs Z H (signs x) (signsD x) := by
  unfold signs signsD
  induction x.cps.toList with
  | nil => exact .nil
  | cons c l ih => exact .cons (.str _) ih
/-- a source: what stands there, and stays -/
structure SrcD (K : PySem.W.Frag) (Y Z : Addr → Prop) (H : Hp) (v : V) (xs : List PyData) (vs : List V) (C : Kd → Prop) : Prop where
  src : Src K H v vs C
  rq : Rqs Z H vs xs
  stay : ∀ k, C k → ∀ H2 : Hp, (∀ a o, H a = some o → ¬ Y a → H2 a = some o) → k.gives K H2 vs
theorem srcD {v : V} {p : PyData} {xs : List PyData} (r : Rb b Z H v (.py p)) (hn : ∀ a, v = .ref a → ¬ Y a) (e : itemsOf p = some xs) : ∃ vs C, SrcD K Y Z H v xs vs C := by
  cases p with
  | list ds =>
    cases e
    obtain ⟨a, us, rfl, ha, q⟩ := r.list
    exact ⟨us, _, .l (SqL.of ha), q, fun k hk H2 h2 => by rw [hk]; exact SqL.of (h2 a _ ha (hn a rfl))⟩
  | tuple ds =>
    cases e
    obtain ⟨a, o, us, rfl, ha, ho, na, q⟩ := r.tuple
    exact ⟨us, _, .t (SqT.th ha), q, fun k hk H2 h2 => by rw [hk]; exact SqT.th (h2 a _ ha (hn a rfl))⟩
  | str x =>
    cases e
    have ev := r.str
    subst ev
    exact ⟨signs x, _, .s, rqs_signs, fun k hk H2 h2 => by obtain ⟨t, rfl⟩ := hk; rfl⟩
  | _ => cases e
/-- what a source has at k -/
theorem SrcD.at {v : V} {xs : List PyData} {vs : List V} {C : Kd → Prop} (s : SrcD K Y Z H v xs vs C) (hY : ∀ a, ¬ Z a → ¬ Y a) {k : Nat} {d : PyData} (h : xs[k]? = some d) {H2 : Hp} (h2 : ∀ a o, H a = some o → ¬ Y a → H2 a = some o) :
    ∃ x, vs[k]? = some x ∧ ∀ Z2 : Addr → Prop, (∀ a, Z2 a → Z a ∨ H a = none) → Rq Z2 H2 x d := by
  obtain ⟨x, hx, r⟩ := s.rq.get h
  exact ⟨x, hx, fun Z2 hz => r.mono hz fun a o e n => h2 a o e (hY a n)⟩
theorem Rq.new2 {Z2 : Addr → Prop} {H2 : Hp} {T : Addr} {o : Obj} {vs : List V} {ds : List PyData} (hT : H2 T = none) (ho : o.dict = none) (hz : ∀ a, Z2 a → H2 a ≠ none) (r : Rqs Z2 H2 vs ds) : Rq Z2 (upd H2 T (HO.th o vs)) (.ref T) (.tuple ds) :=
  .tup upd_same ho (fun z => hz T z hT) (r.up hT)
theorem wk_src {v : V} {xs : List PyData} {vs : List V} {C : Kd → Prop} (s : SrcD K Y Z H v xs vs C) (hY : ∀ a, ¬ Z a → ¬ Y a) {k : Kd} (hk : C k) : Wk b Y Z H (Itk K k) (xs.map D.py) where
  go := fun i d H2 hd h2 g => by
    rw [List.getElem?_map] at hd
    cases e : xs[i]? with
    | none => rw [e] at hd; cases hd
    | some p =>
      rw [e] at hd; cases hd
      obtain ⟨x, hx, r⟩ := s.at hY e h2
      have gv := s.stay k hk H2 h2
      refine ⟨⟨vs, x, gv, hx⟩, fun v H3 y => ?_⟩
      obtain ⟨eH, y⟩ := y
      subst eH
      have : x = v := Option.some.inj (hx.symm.trans (y vs gv))
      subst this
      exact ⟨Ex.refl, g, fun Z2 hz _ => r Z2 hz⟩
  stop := fun i H2 hl h2 => ⟨vs, s.stay k hk H2 h2, by rw [s.rq.length, ← hl, List.length_map]; exact Nat.le_refl _⟩
theorem wk_enum {v : V} {xs : List PyData} {vs : List V} {C : Kd → Prop} (s : SrcD K Y Z H v xs vs C) (hY : ∀ a, ¬ Z a → ¬ Y a) {k : Kd} (hk : C k) : Wk b Y Z H (Iek K k) ((enumP xs).map D.py) where
  go := fun i d H2 hd h2 g => by
    rw [List.getElem?_map] at hd
    cases e : (enumP xs)[i]? with
    | none => rw [e] at hd; cases hd
    | some p =>
      rw [e] at hd; cases hd
      obtain ⟨q, hq, rfl⟩ := enumP_get e
      obtain ⟨x, hx, r⟩ := s.at hY hq h2
      have gv := s.stay k hk H2 h2
      refine ⟨⟨vs, x, gv, hx⟩, fun v H3 y => ?_⟩
      obtain ⟨T, o, x', rfl, hT, ho, eH, y⟩ := y
      subst eH
      have : x = x' := Option.some.inj (hx.symm.trans (y vs gv))
      subst this
      exact ⟨Ex.new hT, Bg.new g hT, fun Z2 hz h3 => Rq.new2 hT ho h3 (.cons (.int _) (.cons (r Z2 hz) .nil))⟩
  stop := fun i H2 hl h2 => ⟨vs, s.stay k hk H2 h2, by rw [s.rq.length, ← hl]; simp [enumP]⟩
theorem wk_zip2 {v w : V} {xs ys : List PyData} {vs ws : List V} {C1 C2 : Kd → Prop} (s : SrcD K Y Z H v xs vs C1) (t : SrcD K Y Z H w ys ws C2) (hY : ∀ a, ¬ Z a → ¬ Y a) {k1 k2 : Kd} (h1 : C1 k1) (hk2 : C2 k2) : Wk b Y Z H (Iz2 K k1 k2) ((zip2P xs ys).map D.py) where
  go := fun i d H2 hd h2 g => by
    rw [List.getElem?_map] at hd
    cases e : (zip2P xs ys)[i]? with
    | none => rw [e] at hd; cases hd
    | some p =>
      rw [e] at hd; cases hd
      obtain ⟨q, q', hq, hq', rfl⟩ := zip2P_get e
      obtain ⟨x, hx, r⟩ := s.at hY hq h2
      obtain ⟨u, hu, r'⟩ := t.at hY hq' h2
      have gv := s.stay k1 h1 H2 h2
      have gu := t.stay k2 hk2 H2 h2
      refine ⟨⟨vs, ws, x, u, gv, gu, hx, hu⟩, fun v H3 y => ?_⟩
      obtain ⟨T, o, x', u', rfl, hT, ho, eH, y1, y2⟩ := y
      subst eH
      have : x = x' := Option.some.inj (hx.symm.trans (y1 vs gv))
      subst this
      have : u = u' := Option.some.inj (hu.symm.trans (y2 ws gu))
      subst this
      exact ⟨Ex.new hT, Bg.new g hT, fun Z2 hz h3 => Rq.new2 hT ho h3 (.cons (r Z2 hz) (.cons (r' Z2 hz) .nil))⟩
  stop := fun i H2 hl h2 => by
    have e : min xs.length ys.length = i := by rw [← hl]; simp [zip2P]
    refine ⟨vs, ws, s.stay k1 h1 H2 h2, t.stay k2 hk2 H2 h2, ?_⟩
    rw [s.rq.length, t.rq.length]
    omega
theorem wk_zip3 {v w z : V} {xs ys zs : List PyData} {vs ws us : List V} {C1 C2 C3 : Kd → Prop} (s : SrcD K Y Z H v xs vs C1) (t : SrcD K Y Z H w ys ws C2) (m : SrcD K Y Z H z zs us C3) (hY : ∀ a, ¬ Z a → ¬ Y a) {k1 k2 k3 : Kd} (h1 : C1 k1) (hk2 : C2 k2) (hk3 : C3 k3) : Wk b Y Z H (Iz3 K k1 k2 k3) ((zip3P xs ys zs).map D.py) where
  go := fun i d H2 hd h2 g => by
    rw [List.getElem?_map] at hd
    cases e : (zip3P xs ys zs)[i]? with
    | none => rw [e] at hd; cases hd
    | some p =>
      rw [e] at hd; cases hd
      obtain ⟨q, q', q'', hq, hq', hq'', rfl⟩ := zip3P_get e
      obtain ⟨x, hx, r⟩ := s.at hY hq h2
      obtain ⟨u, hu, r'⟩ := t.at hY hq' h2
      obtain ⟨c, hc, r''⟩ := m.at hY hq'' h2
      have gv := s.stay k1 h1 H2 h2
      have gu := t.stay k2 hk2 H2 h2
      have gc := m.stay k3 hk3 H2 h2
      refine ⟨⟨vs, ws, us, x, u, c, gv, gu, gc, hx, hu, hc⟩, fun v H3 y => ?_⟩
      obtain ⟨T, o, x', u', c', rfl, hT, ho, eH, y1, y2, y3⟩ := y
      subst eH
      have : x = x' := Option.some.inj (hx.symm.trans (y1 vs gv))
      subst this
      have : u = u' := Option.some.inj (hu.symm.trans (y2 ws gu))
      subst this
      have : c = c' := Option.some.inj (hc.symm.trans (y3 us gc))
      subst this
      exact ⟨Ex.new hT, Bg.new g hT, fun Z2 hz h3 => Rq.new2 hT ho h3 (.cons (r Z2 hz) (.cons (r' Z2 hz) (.cons (r'' Z2 hz) .nil)))⟩
  stop := fun i H2 hl h2 => by
    have e : min xs.length (min ys.length zs.length) = i := by rw [← hl]; simp [zip3P]
    refine ⟨vs, ws, us, s.stay k1 h1 H2 h2, t.stay k2 hk2 H2 h2, m.stay k3 hk3 H2 h2, ?_⟩
    rw [s.rq.length, t.rq.length, m.rq.length]
    omega
theorem wk_range {lo : Int} {n : Nat} : Wk b Y Z H (Itr lo n) ((rangeP lo n).map D.py) where
  go := fun i d H2 hd h2 g => by
    rw [List.getElem?_map] at hd
    cases e : (rangeP lo n)[i]? with
    | none => rw [e] at hd; cases hd
    | some p =>
      rw [e] at hd; cases hd
      obtain ⟨hlt, rfl⟩ := rangeP_get e
      refine ⟨hlt, fun v H3 y => ?_⟩
      obtain ⟨eH, y⟩ := y
      subst eH y
      exact ⟨Ex.refl, g, fun Z2 hz _ => .int _⟩
  stop := fun i H2 hl h2 => by
    have e : n = i := by rw [← hl]; simp [rangeP]
    rw [e]
    exact Nat.le_refl _
end

/-! ### iterators as judgements -/
@[simp] def asO {α : Type} : Option α → (α → Prop) → Prop
  | some a, Q => Q a
  | none, _ => False
theorem asO_ex {α : Type} : ∀ {o : Option α} {Q : α → Prop}, asO o Q → ∃ a, o = some a ∧ Q a
  | some a, _, h => ⟨a, rfl, h⟩
@[simp] def asS : D → (List D → Prop) → Prop
  | .py p, Q => asO (itemsOf p) fun xs => Q (xs.map D.py)
  | _, _ => False
@[simp] def asEn : List D → (List D → Prop) → Prop
  | [.py p], Q => asO (itemsOf p) fun xs => Q ((enumP xs).map D.py)
  | _, _ => False
@[simp] def asZ2 : List D → (List D → Prop) → Prop
  | [.py p, .py q], Q => asO (itemsOf p) fun xs => asO (itemsOf q) fun ys => Q ((zip2P xs ys).map D.py)
  | _, _ => False
@[simp] def asZ3 : List D → (List D → Prop) → Prop
  | [.py p, .py q, .py r], Q => asO (itemsOf p) fun xs => asO (itemsOf q) fun ys => asO (itemsOf r) fun zs => Q ((zip3P xs ys zs).map D.py)
  | _, _ => False
abbrev small62 (i : Int) : Prop := -(2 ^ 62) ≤ i ∧ i < 2 ^ 62
@[simp] theorem small62_nat (n : Nat) : small62 (n : Int) ↔ n < 4611686018427387904 := by unfold small62; omega
@[simp] def asR1 : List D → (List D → Prop) → Prop
  | [.py (.int i)], Q => small62 i ∧ Q ((rangeP 0 i.toNat).map D.py)
  | _, _ => False
@[simp] def asR2 : List D → (List D → Prop) → Prop
  | [.py (.int i), .py (.int j)], Q => (small62 i ∧ small62 j) ∧ Q ((rangeP i (j - i).toNat).map D.py)
  | _, _ => False
theorem asS_ex : ∀ {d : D} {Q : List D → Prop}, asS d Q → ∃ p xs, d = .py p ∧ itemsOf p = some xs ∧ Q (xs.map D.py)
  | .py p, _, h => let ⟨xs, e, q⟩ := asO_ex h; ⟨p, xs, rfl, e, q⟩
theorem asEn_ex : ∀ {d : List D} {Q : List D → Prop}, asEn d Q → ∃ p xs, d = [.py p] ∧ itemsOf p = some xs ∧ Q ((enumP xs).map D.py)
  | [.py p], _, h => let ⟨xs, e, q⟩ := asO_ex h; ⟨p, xs, rfl, e, q⟩
theorem asZ2_ex : ∀ {d : List D} {Q : List D → Prop}, asZ2 d Q → ∃ p xs q ys, d = [.py p, .py q] ∧ itemsOf p = some xs ∧ itemsOf q = some ys ∧ Q ((zip2P xs ys).map D.py)
  | [.py p, .py q], _, h => let ⟨xs, e, h⟩ := asO_ex h; let ⟨ys, e2, h⟩ := asO_ex h; ⟨p, xs, q, ys, rfl, e, e2, h⟩
theorem asZ3_ex : ∀ {d : List D} {Q : List D → Prop}, asZ3 d Q → ∃ p xs q ys r zs, d = [.py p, .py q, .py r] ∧ itemsOf p = some xs ∧ itemsOf q = some ys ∧ itemsOf r = some zs ∧ Q ((zip3P xs ys zs).map D.py)
  | [.py p, .py q, .py r], _, h => let ⟨xs, e, h⟩ := asO_ex h; let ⟨ys, e2, h⟩ := asO_ex h; let ⟨zs, e3, h⟩ := asO_ex h; ⟨p, xs, q, ys, r, zs, rfl, e, e2, e3, h⟩
theorem asR1_ex : ∀ {d : List D} {Q : List D → Prop}, asR1 d Q → ∃ i, d = [.py (.int i)] ∧ small62 i ∧ Q ((rangeP 0 i.toNat).map D.py)
  | [.py (.int i)], _, h => ⟨i, rfl, h⟩
theorem asR2_ex : ∀ {d : List D} {Q : List D → Prop}, asR2 d Q → ∃ i j, d = [.py (.int i), .py (.int j)] ∧ (small62 i ∧ small62 j) ∧ Q ((rangeP i (j - i).toNat).map D.py)
  | [.py (.int i), .py (.int j)], _, h => ⟨i, j, rfl, h⟩
@[simp] def iS (t : VT) : VIt := fun ρ Q E => t ρ (fun d => asS d Q) E
@[simp] def iEn (t : VA) : VIt := fun ρ Q E => t ρ (fun d => asEn d Q) E
@[simp] def iZ2 (t : VA) : VIt := fun ρ Q E => t ρ (fun d => asZ2 d Q) E
@[simp] def iZ3 (t : VA) : VIt := fun ρ Q E => t ρ (fun d => asZ3 d Q) E
@[simp] def iR1 (t : VA) : VIt := fun ρ Q E => t ρ (fun d => asR1 d Q) E
@[simp] def iR2 (t : VA) : VIt := fun ρ Q E => t ρ (fun d => asR2 d Q) E
theorem pi_mono {X : Cx} {tg iter : Expr} {t t' : TI} (h : PI X tg iter t) (m : ∀ σ H R, t' σ H R → t σ H R) : PI X tg iter t' := ⟨fun pins s σ H R I q => h.run pins s σ H R I (m σ H R q)⟩
section
variable {X : Cx} {b : Bg} {W : WX} {tg e e1 e2 e3 : Expr} {elts : List Expr} {kk : Nat} {t t1 t2 t3 : VT} {p pos tpos : Pos}
theorem Rp.ref {Z : Addr → Prop} {H : Hp} {v : V} {p : PyData} (r : Rp b Z H v (.py p)) : ∀ a, v = .ref a → ¬ Z a := fun a e => by
  subst e
  cases r <;> assumption
theorem Rb.ref {Z : Addr → Prop} {H : Hp} {v : V} {p : PyData} (g : Gd b Z H) (r : Rb b Z H v (.py p)) : ∀ a, v = .ref a → ¬ b.B a := fun a e => by
  rcases r with r | ⟨c, e1, n, _⟩
  · exact fun z => Rp.ref r a e (g.zb a z)
  · rw [e] at e1; cases e1; exact n
/-- a loop -/
theorem vi_src (h : VE X b W e t) : VI X b W tg e (iS t) := pi_mono (pi_src h) fun σ H R ⟨Zo, Z, ρ, Qd, Ed, v, q, l, m⟩ =>
  ⟨Zo, Z, ρ, _, Ed, v, q, fun x H1 d x1 g1 r1 hh => by
    obtain ⟨p, xs, ed, ei, q1⟩ := asS_ex hh
    subst ed
    obtain ⟨vs, C, s⟩ := srcD (K := X.K) (Y := Z) (.inl r1) (Rp.ref r1) ei
    exact ⟨vs, C, s.src, fun k hk => l _ H1 _ x1 g1 (wk_src s (fun _ n => n) hk) q1⟩, m⟩
theorem vib_src (h : VX X b W e t) : VIb X b W tg e (iS t) := pi_mono (pi_src h) fun σ H R ⟨Zo, Z, ρ, Qd, Ed, v, q, l, m⟩ =>
  ⟨Zo, Z, ρ, _, Ed, v, q, fun x H1 d x1 g1 r1 hh => by
    obtain ⟨p, xs, ed, ei, q1⟩ := asS_ex hh
    subst ed
    have gd := (v.ex x1 g1).gd
    obtain ⟨vs, C, s⟩ := srcD (K := X.K) (Y := b.B) r1 (Rb.ref gd r1) ei
    exact ⟨vs, C, s.src, fun k hk => l _ H1 _ x1 g1 (wk_src s (fun _ n z => n (gd.zb _ z)) hk) q1⟩, m⟩
/-- many values as sources -/
theorem Rps.rbs {Z : Addr → Prop} {H : Hp} : ∀ {v : List V} {d : List D}, Rps b Z H v d → Rbs b Z H v d
  | _, _, .nil => .nil
  | _, _, .cons r t => .cons (.inl r) (Rps.rbs t)
theorem rbs1 {Z : Addr → Prop} {H : Hp} {v : List V} {d : D} (r : Rps b Z H v [d]) : ∃ x, v = [x] ∧ Rp b Z H x d := by
  cases r with
  | cons r t => cases t; exact ⟨_, rfl, r⟩
theorem rbs2 {Z : Addr → Prop} {H : Hp} {v : List V} {d d2 : D} (r : Rps b Z H v [d, d2]) : ∃ x y, v = [x, y] ∧ Rp b Z H x d ∧ Rp b Z H y d2 := by
  cases r with
  | cons r t => obtain ⟨y, rfl, r2⟩ := rbs1 t; exact ⟨_, y, rfl, r, r2⟩
theorem rbs3 {Z : Addr → Prop} {H : Hp} {v : List V} {d d2 d3 : D} (r : Rps b Z H v [d, d2, d3]) : ∃ x y z, v = [x, y, z] ∧ Rp b Z H x d ∧ Rp b Z H y d2 ∧ Rp b Z H z d3 := by
  cases r with
  | cons r t => obtain ⟨y, z, rfl, r2, r3⟩ := rbs2 t; exact ⟨_, y, z, rfl, r, r2, r3⟩
theorem Rbs.three {Z : Addr → Prop} {H : Hp} {v : List V} {d d2 d3 : D} (r : Rbs b Z H v [d, d2, d3]) : ∃ x y z, v = [x, y, z] ∧ Rb b Z H x d ∧ Rb b Z H y d2 ∧ Rb b Z H z d3 := by
  cases r with
  | cons r t => obtain ⟨y, z, rfl, r2, r3⟩ := Rbs.two t; exact ⟨_, y, z, rfl, r, r2, r3⟩
variable {ta : VA}
theorem vi_enum (hg : Gl X "enumerate") (hm : X.mg "enumerate" = none) (h : VAs X b W [e] ta) (hs : starEach [e] X.env = [(false, eval e X.env)] := by rfl) : VI X b W (.Tuple elts kk tpos) (.Call (.Name "enumerate" p) [e] [] pos) (iEn ta) :=
  pi_mono (pi_enumS hg hm h hs) fun σ H R ⟨Zo, Z, ρ, Qd, Ed, v, q, l, m⟩ =>
    ⟨Zo, Z, ρ, _, Ed, v, q, fun x H1 d x1 g1 r1 hh => by
      obtain ⟨p, xs, ed, ei, q1⟩ := asEn_ex hh
      subst ed
      obtain ⟨w, rfl, r2⟩ := rbs1 r1
      obtain ⟨vs, C, s⟩ := srcD (K := X.K) (Y := Z) (.inl r2) (Rp.ref r2) ei
      exact ⟨w, vs, C, rfl, s.src, fun k hk => l _ H1 _ x1 g1 (wk_enum s (fun _ n => n) hk) q1⟩, m⟩
theorem vib_enum (hg : Gl X "enumerate") (hm : X.mg "enumerate" = none) (h : VXs X b W [e] ta) (hs : starEach [e] X.env = [(false, eval e X.env)] := by rfl) : VIb X b W (.Tuple elts kk tpos) (.Call (.Name "enumerate" p) [e] [] pos) (iEn ta) :=
  pi_mono (pi_enumS hg hm h hs) fun σ H R ⟨Zo, Z, ρ, Qd, Ed, v, q, l, m⟩ =>
    ⟨Zo, Z, ρ, _, Ed, v, q, fun x H1 d x1 g1 r1 hh => by
      obtain ⟨p, xs, ed, ei, q1⟩ := asEn_ex hh
      subst ed
      have gd := (v.ex x1 g1).gd
      obtain ⟨w, rfl, r2⟩ := Rbs.one r1
      obtain ⟨vs, C, s⟩ := srcD (K := X.K) (Y := b.B) r2 (Rb.ref gd r2) ei
      exact ⟨w, vs, C, rfl, s.src, fun k hk => l _ H1 _ x1 g1 (wk_enum s (fun _ n z => n (gd.zb _ z)) hk) q1⟩, m⟩
theorem vi_zip2 (hg : Gl X "zip") (hm : X.mg "zip" = none) (h : VAs X b W [e, e2] ta) (hs : starEach [e, e2] X.env = (false, eval e X.env) :: starEach [e2] X.env := by rfl) (hpl : (backTo pos (starEach [e2] X.env)).any (·.1) = false := by rfl) :
    VI X b W (.Tuple elts kk tpos) (.Call (.Name "zip" p) [e, e2] [] pos) (iZ2 ta) :=
  pi_mono (pi_zip2 hg hm h hs hpl) fun σ H R ⟨Zo, Z, ρ, Qd, Ed, v, q, l, m⟩ =>
    ⟨Zo, Z, ρ, _, Ed, v, q, fun x H1 d x1 g1 r1 hh => by
      obtain ⟨p, xs, q, ys, ed, ei, ej, q1⟩ := asZ2_ex hh
      subst ed
      obtain ⟨w, y, rfl, r1, r2⟩ := rbs2 r1
      obtain ⟨vs, C, s⟩ := srcD (K := X.K) (Y := Z) (.inl r1) (Rp.ref r1) ei
      obtain ⟨vs2, C2, s2⟩ := srcD (K := X.K) (Y := Z) (.inl r2) (Rp.ref r2) ej
      exact ⟨w, y, vs, vs2, C, C2, rfl, s.src, s2.src, fun k k2 hk hk2 => l _ H1 _ x1 g1 (wk_zip2 s s2 (fun _ n => n) hk hk2) q1⟩, m⟩
theorem vib_zip2 (hg : Gl X "zip") (hm : X.mg "zip" = none) (h : VXs X b W [e, e2] ta) (hs : starEach [e, e2] X.env = (false, eval e X.env) :: starEach [e2] X.env := by rfl) (hpl : (backTo pos (starEach [e2] X.env)).any (·.1) = false := by rfl) :
    VIb X b W (.Tuple elts kk tpos) (.Call (.Name "zip" p) [e, e2] [] pos) (iZ2 ta) :=
  pi_mono (pi_zip2 hg hm h hs hpl) fun σ H R ⟨Zo, Z, ρ, Qd, Ed, v, q, l, m⟩ =>
    ⟨Zo, Z, ρ, _, Ed, v, q, fun x H1 d x1 g1 r1 hh => by
      obtain ⟨p, xs, q, ys, ed, ei, ej, q1⟩ := asZ2_ex hh
      subst ed
      have gd := (v.ex x1 g1).gd
      obtain ⟨w, y, rfl, r1, r2⟩ := Rbs.two r1
      obtain ⟨vs, C, s⟩ := srcD (K := X.K) (Y := b.B) r1 (Rb.ref gd r1) ei
      obtain ⟨vs2, C2, s2⟩ := srcD (K := X.K) (Y := b.B) r2 (Rb.ref gd r2) ej
      exact ⟨w, y, vs, vs2, C, C2, rfl, s.src, s2.src, fun k k2 hk hk2 => l _ H1 _ x1 g1 (wk_zip2 s s2 (fun _ n z => n (gd.zb _ z)) hk hk2) q1⟩, m⟩
theorem vi_zip3 (hg : Gl X "zip") (hm : X.mg "zip" = none) (h : VAs X b W [e, e2, e3] ta) (hs : starEach [e, e2, e3] X.env = (false, eval e X.env) :: starEach [e2, e3] X.env := by rfl) (hpl : (backTo pos (starEach [e2, e3] X.env)).any (·.1) = false := by rfl) :
    VI X b W (.Tuple elts kk tpos) (.Call (.Name "zip" p) [e, e2, e3] [] pos) (iZ3 ta) :=
  pi_mono (pi_zip3 hg hm h hs hpl) fun σ H R ⟨Zo, Z, ρ, Qd, Ed, v, q, l, m⟩ =>
    ⟨Zo, Z, ρ, _, Ed, v, q, fun x H1 d x1 g1 r1 hh => by
      obtain ⟨p, xs, q, ys, r, zs, ed, ei, ej, ek, q1⟩ := asZ3_ex hh
      subst ed
      obtain ⟨w, y, z, rfl, r1, r2, r3⟩ := rbs3 r1
      obtain ⟨vs, C, s⟩ := srcD (K := X.K) (Y := Z) (.inl r1) (Rp.ref r1) ei
      obtain ⟨vs2, C2, s2⟩ := srcD (K := X.K) (Y := Z) (.inl r2) (Rp.ref r2) ej
      obtain ⟨vs3, C3, s3⟩ := srcD (K := X.K) (Y := Z) (.inl r3) (Rp.ref r3) ek
      exact ⟨w, y, z, vs, vs2, vs3, C, C2, C3, rfl, s.src, s2.src, s3.src, fun k k2 k3 hk hk2 hk3 => l _ H1 _ x1 g1 (wk_zip3 s s2 s3 (fun _ n => n) hk hk2 hk3) q1⟩, m⟩
theorem vib_zip3 (hg : Gl X "zip") (hm : X.mg "zip" = none) (h : VXs X b W [e, e2, e3] ta) (hs : starEach [e, e2, e3] X.env = (false, eval e X.env) :: starEach [e2, e3] X.env := by rfl) (hpl : (backTo pos (starEach [e2, e3] X.env)).any (·.1) = false := by rfl) :
    VIb X b W (.Tuple elts kk tpos) (.Call (.Name "zip" p) [e, e2, e3] [] pos) (iZ3 ta) :=
  pi_mono (pi_zip3 hg hm h hs hpl) fun σ H R ⟨Zo, Z, ρ, Qd, Ed, v, q, l, m⟩ =>
    ⟨Zo, Z, ρ, _, Ed, v, q, fun x H1 d x1 g1 r1 hh => by
      obtain ⟨p, xs, q, ys, r, zs, ed, ei, ej, ek, q1⟩ := asZ3_ex hh
      subst ed
      have gd := (v.ex x1 g1).gd
      obtain ⟨w, y, z, rfl, r1, r2, r3⟩ := Rbs.three r1
      obtain ⟨vs, C, s⟩ := srcD (K := X.K) (Y := b.B) r1 (Rb.ref gd r1) ei
      obtain ⟨vs2, C2, s2⟩ := srcD (K := X.K) (Y := b.B) r2 (Rb.ref gd r2) ej
      obtain ⟨vs3, C3, s3⟩ := srcD (K := X.K) (Y := b.B) r3 (Rb.ref gd r3) ek
      exact ⟨w, y, z, vs, vs2, vs3, C, C2, C3, rfl, s.src, s2.src, s3.src, fun k k2 k3 hk hk2 hk3 => l _ H1 _ x1 g1 (wk_zip3 s s2 s3 (fun _ n z => n (gd.zb _ z)) hk hk2 hk3) q1⟩, m⟩
theorem pi_rng1 {Yf : (Addr → Prop) → Addr → Prop} (hg : Gl X "range") (hm : X.mg "range" = none) (h : VXs X b W [e] ta) (hs : starEach [e] X.env = [(false, eval e X.env)] := by rfl) : PI X tg (.Call (.Name "range" p) [e] [] pos) (LI b W Yf (iR1 ta)) :=
  pi_mono (pi_range1 hg hm h hs) fun σ H R ⟨Zo, Z, ρ, Qd, Ed, v, q, l, m⟩ =>
    ⟨Zo, Z, ρ, _, Ed, v, q, fun x H1 d x1 g1 r1 hh => by
      obtain ⟨i, ed, ⟨i1, i2⟩, q1⟩ := asR1_ex hh
      subst ed
      obtain ⟨w, rfl, r2⟩ := Rbs.one r1
      exact ⟨i, by rw [r2.int], i1, i2, l _ H1 _ x1 g1 wk_range q1⟩, m⟩
theorem pi_rng2 {Yf : (Addr → Prop) → Addr → Prop} (hg : Gl X "range") (hm : X.mg "range" = none) (h : VXs X b W [e1, e2] ta) (hs : starEach [e1, e2] X.env = [(false, eval e1 X.env), (false, eval e2 X.env)] := by rfl) (hs2 : starEach [e2] X.env = [(false, eval e2 X.env)] := by rfl) :
    PI X tg (.Call (.Name "range" p) [e1, e2] [] pos) (LI b W Yf (iR2 ta)) :=
  pi_mono (pi_range2 hg hm h hs hs2) fun σ H R ⟨Zo, Z, ρ, Qd, Ed, v, q, l, m⟩ =>
    ⟨Zo, Z, ρ, _, Ed, v, q, fun x H1 d x1 g1 r1 hh => by
      obtain ⟨i, j, ed, ⟨⟨i1, i2⟩, j1, j2⟩, q1⟩ := asR2_ex hh
      subst ed
      obtain ⟨w, y, rfl, r1, r2⟩ := Rbs.two r1
      exact ⟨i, j, by rw [r1.int, r2.int], ⟨i1, i2, j1, j2⟩, l _ H1 _ x1 g1 wk_range q1⟩, m⟩
theorem vi_range1 (hg : Gl X "range") (hm : X.mg "range" = none) (h : VXs X b W [e] ta) (hs : starEach [e] X.env = [(false, eval e X.env)] := by rfl) : VI X b W tg (.Call (.Name "range" p) [e] [] pos) (iR1 ta) := pi_rng1 hg hm h hs
theorem vib_range1 (hg : Gl X "range") (hm : X.mg "range" = none) (h : VXs X b W [e] ta) (hs : starEach [e] X.env = [(false, eval e X.env)] := by rfl) : VIb X b W tg (.Call (.Name "range" p) [e] [] pos) (iR1 ta) := pi_rng1 hg hm h hs
theorem vi_range2 (hg : Gl X "range") (hm : X.mg "range" = none) (h : VXs X b W [e1, e2] ta) (hs : starEach [e1, e2] X.env = [(false, eval e1 X.env), (false, eval e2 X.env)] := by rfl) (hs2 : starEach [e2] X.env = [(false, eval e2 X.env)] := by rfl) :
    VI X b W tg (.Call (.Name "range" p) [e1, e2] [] pos) (iR2 ta) := pi_rng2 hg hm h hs hs2
theorem vib_range2 (hg : Gl X "range") (hm : X.mg "range" = none) (h : VXs X b W [e1, e2] ta) (hs : starEach [e1, e2] X.env = [(false, eval e1 X.env), (false, eval e2 X.env)] := by rfl) (hs2 : starEach [e2] X.env = [(false, eval e2 X.env)] := by rfl) :
    VIb X b W tg (.Call (.Name "range" p) [e1, e2] [] pos) (iR2 ta) := pi_rng2 hg hm h hs hs2
end
end VL
set_option Elab.async false
set_option linter.all false
set_option maxRecDepth 100000
set_option maxHeartbeats 4000000
namespace VL
open PySem PySem.Spec PyProof.Rows L2

/-! ### from a loop's start on -/
section
variable {b : Bg} {W : WX} {H0 : Hp} {M Zo Z Z' : Addr → Prop} {σ σ' : L2.St} {H H' : Hp} {ρ ρ' : VEnv} {De : VEnds} {Dn : Ends}
/-- what a loop may write: its def's own objects -/
abbrev Mo (Zo Z : Addr → Prop) : Addr → Prop := fun a => Z a ∧ ¬ Zo a
theorem VOk.here (v : VOk b Zo Z σ H ρ) : FOk b H (Mo Zo Z) Zo Z σ H ρ :=
  ⟨v, fun _ _ e _ _ => e, fun i d a h1 h2 => by
    obtain ⟨c, h3, h4, h5, _⟩ := v.own i d h1
    rw [h2] at h3; cases h3
    exact .inl ⟨h4, h5⟩⟩
theorem FOk.mine (f : FOk b H0 M Zo Z σ H ρ) {a : Addr} (h : Mo Zo Z a) : M a ∨ H0 a = none := by
  rcases f.v.zi a h.1 with z | ⟨i, d, h1, h2⟩
  · exact absurd z h.2
  · exact f.fr i d a h1 h2
theorem FOk.extBack (f : FOk b H0 M Zo Z σ H ρ) (x : ∀ a o, H a = some o → ¬ b.B a → ¬ Mo Zo Z a → H' a = some o) : ∀ a o, H0 a = some o → ¬ b.B a → ¬ M a → H' a = some o := fun a o e nb nm =>
  x a o (f.ext a o e nb nm) nb fun mo => by
    rcases f.mine mo with z | z
    · exact nm z
    · rw [e] at z; cases z
theorem FOk.back (f : FOk b H0 M Zo Z σ H ρ) (f' : FOk b H (Mo Zo Z) Zo Z' σ' H' ρ') : FOk b H0 M Zo Z' σ' H' ρ' :=
  ⟨f'.v, f.extBack f'.ext, fun i d a h1 h2 => by
    rcases f'.fr i d a h1 h2 with z | z
    · exact f.mine z
    · cases q : H0 a with
      | none => exact .inr rfl
      | some o =>
        by_cases hb : b.B a
        · exact absurd z (b.dom _ _ f.v.g hb)
        · by_cases hm : M a
          · exact .inl hm
          · rw [f.ext a o q hb hm] at z; cases z⟩
theorem Lk.here (l : Lk b W H0 M Zo De Dn) (f : FOk b H0 M Zo Z σ H ρ) : Lk b W H (Mo Zo Z) Zo De Dn where
  nx := fun Z' σ' H' ρ' f' q => l.nx Z' σ' H' ρ' (f.back f') q
  rt := fun v H' d x g r q => l.rt v H' d (f.extBack x) g r q
  bk := fun Z' σ' H' ρ' f' q => l.bk Z' σ' H' ρ' (f.back f') q
  ct := fun Z' σ' H' ρ' f' q => l.ct Z' σ' H' ρ' (f.back f') q
  ex := fun c x Z' σ' H' ρ' er f' r q => l.ex c x Z' σ' H' ρ' er (f.back f') r q
/-- what is owned later was owned at the start, or is new -/
theorem FOk.young (f : FOk b H (Mo Zo Z) Zo Z' σ' H' ρ') (v : VOk b Zo Z σ H ρ) : ∀ a, Z' a → Z a ∨ H a = none := fun a z => by
  rcases f.v.zi a z with z | ⟨i, d, h1, h2⟩
  · exact .inl (v.zo a z)
  · exact (f.fr i d a h1 h2).imp (·.1) id
end

/-! ### for -/
@[simp] def forGo (g : VTg) (tb : VS) : List D → VEnv → VEnds → Prop
  | [], ρ, De => De.nx ρ
  | d :: ds, ρ, De => g d ρ fun ρ1 => tb ρ1 { De with nx := fun ρ2 => forGo g tb ds ρ2 De, ct := fun ρ2 => forGo g tb ds ρ2 De, bk := De.nx }
@[simp] def sFor (ti : VIt) (g : VTg) (tb : VS) : VS := fun ρ De => ti ρ (fun ds => forGo g tb ds ρ De) (De.ex ρ)
section
variable {X : Cx} {b : Bg} {W : WX} {tg iter : Expr} {body : List Stmt} {ti : VIt} {js : List Nat} {g : VTg} {tb : VS} {pos : Pos}
theorem vs_for (hp : PassesOwn (model X.prog X.w) X.A X.env X.xe) (hc : X.calm = true) (hi : VI X b W tg iter ti) (hg : VG X b tg js g) (hb : VSs X b W body tb)
    (hs : ∀ x, foldedSetIterable iter X.env x = pure x := by intro _; rfl) : VSt X b W (.For tg iter body [] pos) (sFor ti g tb) :=
  ps_mono (ps_for hp hc hi hg hb hs) fun Dn σ H ⟨H0, M, Zo, Z, ρ, De, f, q, l⟩ => ⟨Zo, Z, ρ, _, _, f.v, q, fun J H1 ds x1 g1 wk q1 => by
    have f1 := f.ex x1 g1
    have l1 := l.here f1
    have hZ : ∀ a, ¬ Z a → ¬ b.B a ∧ ¬ Mo Zo Z a := fun a n => ⟨fun z => n (f.v.zo _ (f.v.zb a z)), fun z => n z.1⟩
    refine ⟨fun i m σ' H' => m = ds.length - i ∧ i ≤ ds.length ∧ ∃ Z' ρ', FOk b H1 (Mo Zo Z) Zo Z' σ' H' ρ' ∧ forGo g tb (ds.drop i) ρ' De, ⟨ds.length, by simp, Nat.zero_le _, Z, ρ, f1.v.here, q1⟩, ?_⟩
    rintro i m σ' H' ⟨rfl, hi, Z', ρ', f', q'⟩
    have st : ∀ a o, H1 a = some o → ¬ Z a → H' a = some o := fun a o e n => f'.ext a o e (hZ a n).1 (hZ a n).2
    by_cases hlt : i < ds.length
    · rw [List.drop_eq_getElem_cons hlt] at q'
      obtain ⟨go, yl⟩ := wk.go i ds[i] H' (List.getElem?_eq_getElem hlt) st f'.v.g
      refine .inr ⟨go, fun σ2 H2 => ∃ Z2 ρ2, FOk b H1 (Mo Zo Z) Zo Z2 σ2 H2 ρ2 ∧ forGo g tb (ds.drop (i + 1)) ρ2 De, fun σ2 H2 h2 => ⟨ds.length - (i + 1), by omega, rfl, hlt, h2⟩, fun v H3 y => ?_⟩
      obtain ⟨x3, g3, r3⟩ := yl v H3 y
      refine ⟨H1, Mo Zo Z, Zo, Z', ρ', _, _, f'.ex x3 g3, r3 Z' (f'.young f1.v) f'.v.dom, q', fun Z4 σ4 ρ4 _ _ f4 q4 => ?_⟩
      exact ⟨H1, Mo Zo Z, Zo, Z4, ρ4, _, f4, q4, ⟨fun Z5 σ5 H5 ρ5 f5 q5 => ⟨Z5, ρ5, f5, q5⟩, l1.rt, fun Z5 σ5 H5 ρ5 f5 q5 => l1.nx Z5 σ5 H5 ρ5 f5 q5, fun Z5 σ5 H5 ρ5 f5 q5 => ⟨Z5, ρ5, f5, q5⟩, l1.ex⟩⟩
    · have e : ds.length = i := by omega
      rw [List.drop_eq_nil_of_le (by omega)] at q'
      exact .inl ⟨wk.stop i H' e st, l1.nx Z' σ' H' ρ' f' q'⟩, l.er f⟩
/-! ### while -/
def sWhile (c : VB) (tb : VS) : VS := fun ρ De => ∃ Iv : Nat → VEnv → Prop, (∃ m, Iv m ρ) ∧ ∀ m ρ, Iv m ρ →
  c ρ (fun k => if k = true then tb ρ { De with nx := fun ρ' => ∃ m', m' < m ∧ Iv m' ρ', ct := fun ρ' => ∃ m', m' < m ∧ Iv m' ρ', bk := De.nx } else De.nx ρ) (De.ex ρ)
theorem vs_while {c : Expr} {tc : VB} (hp : PassesOwn (model X.prog X.w) X.A X.env X.xe) (hc : VTe X b W c tc) (hb : VSs X b W body tb) : VSt X b W (.While c body [] pos) (sWhile tc tb) :=
  ps_mono (ps_while hp hc hb) fun Dn σ H ⟨H0, M, Zo, Z, ρ, De, f, ⟨Iv, ⟨m0, i0⟩, turn⟩, l⟩ => by
    refine ⟨fun m σ' H' => ∃ Z' ρ', FOk b H0 M Zo Z' σ' H' ρ' ∧ Iv m ρ', ⟨m0, Z, ρ, f, i0⟩, ?_⟩
    rintro m σ' H' ⟨Z', ρ', f', q'⟩
    refine ⟨Zo, Z', ρ', _, _, f'.v, turn m ρ' q', fun k H2 x g q2 => ?_, l.er f'⟩
    cases k with
    | true =>
      refine ⟨fun σ3 H3 => ∃ m', m' < m ∧ ∃ Z3 ρ3, FOk b H0 M Zo Z3 σ3 H3 ρ3 ∧ Iv m' ρ3, fun σ3 H3 ⟨m', hm, h3⟩ => ⟨m', hm, h3⟩, ?_⟩
      exact ⟨H0, M, Zo, Z', ρ', _, f'.ex x g, q2, ⟨fun Z5 σ5 H5 ρ5 f5 ⟨m', hm, q5⟩ => ⟨m', hm, Z5, ρ5, f5, q5⟩, l.rt, fun Z5 σ5 H5 ρ5 f5 q5 => l.nx Z5 σ5 H5 ρ5 f5 q5, fun Z5 σ5 H5 ρ5 f5 ⟨m', hm, q5⟩ => ⟨m', hm, Z5, ρ5, f5, q5⟩, l.ex⟩⟩
    | false => exact l.nx Z' σ' H2 ρ' (f'.ex x g) q2
end

/-! ### list comprehensions -/
abbrev noW : WX := fun _ _ _ _ => False
abbrev noE : Er → Prop := fun _ => False
@[simp] def wipeE (ρ : VEnv) : List Nat → VEnv
  | [] => ρ
  | v :: vs => (wipeE ρ vs).set v .un
@[simp] def wYes : VB := fun _ Q _ => Q true
@[simp] def lcGo (g : VTg) (tt : VB) (te : VT) (Q : D → Prop) : List D → List PyData → VEnv → Prop
  | [], acc, _ => Q (.py (.list acc))
  | d :: ds, acc, ρ => g d ρ fun ρ1 => tt ρ1 (fun k => if k = true then te ρ1 (fun y => ∃ p, y = .py p ∧ acc.length < sizeLine ∧ lcGo g tt te Q ds (acc ++ [p]) ρ) noE else lcGo g tt te Q ds acc ρ) noE
/-- no slot of these is owned -/
@[simp] def noOwn (ρ : VEnv) (vs : List Nat) : Prop := ∀ i ∈ vs, ∀ d, ρ[i]? ≠ some (.own d)
@[simp] def vLc (vs : List Nat) (ti : VIt) (g : VTg) (tt : VB) (te : VT) : VT := fun ρ Q E => noOwn ρ vs ∧ ti ρ (fun ds => lcGo g tt te Q ds [] (wipeE ρ vs)) E
theorem wipeE_len (ρ : VEnv) : ∀ vs : List Nat, (wipeE ρ vs).length = ρ.length
  | [] => rfl
  | v :: vs => by unfold wipeE; rw [List.length_set, wipeE_len ρ vs]
theorem wipeE_in {ρ : VEnv} {i : Nat} {s : Slot} : ∀ {vs : List Nat}, (wipeE ρ vs)[i]? = some s → (s = .un ∧ i ∈ vs) ∨ (ρ[i]? = some s ∧ i ∉ vs)
  | [], h => .inr ⟨h, by simp⟩
  | v :: vs, h => by
    unfold wipeE at h
    by_cases hi : v = i
    · subst hi
      by_cases hv : v < (wipeE ρ vs).length
      · rw [List.getElem?_set_self hv] at h; cases h; exact .inl ⟨rfl, List.mem_cons_self⟩
      · rw [List.getElem?_eq_none (by rw [List.length_set]; omega)] at h; cases h
    · rw [List.getElem?_set_ne hi] at h
      rcases wipeE_in h with ⟨h1, h2⟩ | ⟨h1, h2⟩
      · exact .inl ⟨h1, List.mem_cons_of_mem _ h2⟩
      · exact .inr ⟨h1, fun m => by
          rcases List.mem_cons.mp m with e | m
          · exact hi e.symm
          · exact h2 m⟩
theorem wipeE_out {ρ : VEnv} {i : Nat} {s : Slot} (h : ρ[i]? = some s) : ∀ {vs : List Nat}, i ∉ vs → (wipeE ρ vs)[i]? = some s
  | [], _ => h
  | v :: vs, hn => by
    unfold wipeE
    rw [List.getElem?_set_ne (fun e => hn (by rw [e]; exact List.mem_cons_self))]
    exact wipeE_out h fun m => hn (List.mem_cons_of_mem _ m)
theorem wipe_same {σ σ' : L2.St} {ρ ρ' : VEnv} {js : List Nat} (s : Same js σ σ' ρ ρ') : ∀ {vs : List Nat}, (∀ j ∈ js, j ∈ vs) → wipe σ' vs = wipe σ vs := fun {vs} h => by
  have wo : ∀ (τ : L2.St) (j : Nat) (vs : List Nat), j ∉ vs → (wipe τ vs)[j]? = τ[j]? := fun τ j vs => by
    induction vs with
    | nil => intro _; rfl
    | cons v vs ih =>
      intro hn
      show ((wipe τ vs).set v none)[j]? = _
      rw [List.getElem?_set_ne (fun e => hn (by rw [e]; exact List.mem_cons_self))]
      exact ih fun m => hn (List.mem_cons_of_mem _ m)
  have wi : ∀ (τ : L2.St) (j : Nat) (vs : List Nat), j ∈ vs → (wipe τ vs)[j]? = if j < τ.length then some none else none := fun τ j vs => by
    induction vs with
    | nil => intro h; cases h
    | cons v vs ih =>
      intro hm
      show ((wipe τ vs).set v none)[j]? = _
      by_cases e : v = j
      · subst e
        by_cases hl : v < τ.length
        · rw [List.getElem?_set_self (by rw [wipe_length]; exact hl), if_pos hl]
        · rw [List.getElem?_eq_none (by rw [List.length_set, wipe_length]; omega), if_neg hl]
      · rw [List.getElem?_set_ne e]
        exact ih ((List.mem_cons.mp hm).resolve_left fun q => e q.symm)
  apply List.ext_getElem?
  intro j
  by_cases hj : j ∈ vs
  · rw [wi σ' j vs hj, wi σ j vs hj, s.len]
  · rw [wo σ' j vs hj, wo σ j vs hj]
    exact s.out j fun m => hj (h j m)
theorem VOk.wiped {b : Bg} {Zo Z : Addr → Prop} {σ : L2.St} {H : Hp} {ρ : VEnv} (v : VOk b Zo Z σ H ρ) {vs : List Nat} (hn : noOwn ρ vs) : VOk b Zo Z (wipe σ vs) H (wipeE ρ vs) where
  g := v.g
  zb := v.zb
  zo := v.zo
  dom := v.dom
  zi := fun a z => by
    rcases v.zi a z with z | ⟨i, d, h1, h2⟩
    · exact .inl z
    · have hi : i ∉ vs := fun m => hn i m d h1
      exact .inr ⟨i, d, wipeE_out h1 hi, by rw [wipe_out hi]; exact h2⟩
  own := fun i d h => by
    rcases wipeE_in h with ⟨h1, _⟩ | ⟨h1, hi⟩
    · cases h1
    · obtain ⟨a, h2, h3⟩ := v.own i d h1
      exact ⟨a, by rw [wipe_out hi]; exact h2, h3⟩
  inj := fun i j d e a h1 h2 h3 h4 => by
    rcases wipeE_in h1 with ⟨q, _⟩ | ⟨h1, hi⟩
    · cases q
    · rcases wipeE_in h2 with ⟨q, _⟩ | ⟨h2, hj⟩
      · cases q
      · rw [wipe_out hi] at h3
        rw [wipe_out hj] at h4
        exact v.inj i j d e a h1 h2 h3 h4
  shr := fun i d h => by
    rcases wipeE_in h with ⟨h1, _⟩ | ⟨h1, hi⟩
    · cases h1
    · obtain ⟨u, h2, h3⟩ := v.shr i d h1
      exact ⟨u, by rw [wipe_out hi]; exact h2, h3⟩
  len := by rw [wipeE_len, wipe_length]; exact v.len
section
variable {b : Bg} {Z : Addr → Prop} {H : Hp} {a : Addr}
/-- one more address to be avoided: nothing that is known reaches a new one -/
theorem Rp.apart (ha : H a = none) {o : HO} {v : V} {d : D} (r : Rp b Z H v d) : Rp b (fun c => Z c ∨ c = a) (upd H a o) v d :=
  r.mono (fun c z => z.imp id fun e => by rw [e]; exact ha) fun c u e _ => by rw [upd_ne (ne_of_none e ha)]; exact e
theorem Ow.apart (ha : H a = none) {o : HO} {c : Addr} {d : D} (r : Ow b Z H c d) : Ow b (fun c => Z c ∨ c = a) (upd H a o) c d :=
  r.mono (fun c z => z.imp id fun e => by rw [e]; exact ha) (fun c u e _ => by rw [upd_ne (ne_of_none e ha)]; exact e) fun u e => by rw [upd_ne (ne_of_none e ha)]; exact e
theorem VOk.apart {Zo : Addr → Prop} {σ : L2.St} {ρ : VEnv} (v : VOk b Zo Z σ H ρ) (ha : H a = none) {o : HO} : VOk b (fun c => Zo c ∨ c = a) (fun c => Z c ∨ c = a) σ (upd H a o) ρ where
  g := Bg.new v.g ha
  zb := fun c z => .inl (v.zb c z)
  zo := fun c z => z.imp (v.zo c) id
  dom := fun c z => by
    by_cases e : c = a
    · rw [e, upd_same]; simp
    · rw [upd_ne e]; exact v.dom c (z.resolve_right e)
  zi := fun c z => z.elim (fun z => (v.zi c z).imp .inl id) fun e => .inl (.inr e)
  own := fun i d e => by
    obtain ⟨c, h1, h2, h3, h4⟩ := v.own i d e
    exact ⟨c, h1, .inl h2, fun z => z.elim h3 fun q => v.dom c h2 (by rw [q]; exact ha), h4.apart ha⟩
  inj := v.inj
  shr := fun i d e => by
    obtain ⟨u, h1, h2⟩ := v.shr i d e
    exact ⟨u, h1, h2.apart ha⟩
  len := v.len
/-- an object that is an outer one's is written: nothing here reaches it -/
theorem VOk.outer {Zo : Addr → Prop} {σ : L2.St} {ρ : VEnv} (v : VOk b Zo Z σ H ρ) (ha : Zo a) (nb : ¬ b.B a) (hx : ∀ P, H a ≠ some (.ext P)) {o : HO} : VOk b Zo Z σ (upd H a o) ρ := by
  have keep : ∀ c u, H c = some u → ¬ Z c → upd H a o c = some u := fun c u e n => by rw [upd_ne (fun q => n (by rw [q]; exact v.zo a ha))]; exact e
  refine ⟨b.loc H _ (fun c hc => upd_ne fun q => nb (by rw [← q]; exact hc)) (fun c P e => by rw [upd_ne (fun q => hx P (by rw [← q]; exact e))]; exact e) v.g, v.zb, v.zo, fun c z => ?_, v.zi, fun i d e => ?_, v.inj, fun i d e => ?_, v.len⟩
  · by_cases q : c = a
    · rw [q, upd_same]; simp
    · rw [upd_ne q]; exact v.dom c z
  · obtain ⟨c, h1, h2, h3, h4⟩ := v.own i d e
    exact ⟨c, h1, h2, h3, h4.mono (fun _ z => .inl z) keep fun u e => by rw [upd_ne (fun q => h3 (by rw [q]; exact ha))]; exact e⟩
  · obtain ⟨u, h1, h2⟩ := v.shr i d e
    exact ⟨u, h1, h2.mono (fun _ z => .inl z) keep⟩
theorem Wk.imp {Y : Addr → Prop} {J : It} {ds : List D} (w : Wk b Y Z H J ds) {H' : Hp} {Z' : Addr → Prop} (hz : ∀ a, Z' a → Z a ∨ H a = none) (hx : ∀ a o, H a = some o → ¬ Y a → H' a = some o) (hn : ∀ a, H' a = none → H a = none) : Wk b Y Z' H' J ds where
  go := fun k d H2 h1 h2 g => by
    obtain ⟨q1, q2⟩ := w.go k d H2 h1 (fun a o e n => h2 a o (hx a o e n) n) g
    exact ⟨q1, fun v H3 y => ⟨(q2 v H3 y).1, (q2 v H3 y).2.1, fun Z2 z1 z2 => (q2 v H3 y).2.2 Z2 (fun a z => (z1 a z).elim (hz a) fun e => .inr (hn a e)) z2⟩⟩
  stop := fun k H2 h1 h2 => w.stop k H2 h1 fun a o e n => h2 a o (hx a o e n) n
end
section
variable {b : Bg} {W : WX} {ti : VIt} {js : List Nat} {g : VTg} {tt : VB} {te : VT} {vs : List Nat}
theorem lc_sound (hjs : ∀ j ∈ js, j ∈ vs) : ∀ σ H Q, LE b W (RN b) (vLc vs ti g tt te) σ H Q → tLc (LI b W (fun _ => b.B) ti) (LG b js g) (LB b noW tt) (LE b noW (RE b) te) vs σ H Q :=
  fun σ H Q ⟨Zo, Z, ρ, Qd, Ed, v, ⟨hno, q⟩, l, m⟩ => ⟨Zo, Z, ρ, _, _, v, q, fun J H1 ds x1 g1 wk q1 => by
    intro A hA
    have v1 := v.ex x1 g1
    have nzA : ¬ Z A := v1.fresh hA
    have nbA : ¬ b.B A := v1.nb nzA
    have hA0 : H A = none := none_back g1 x1 A hA
    have v2 := (v1.apart hA (o := .lst [])).wiped hno
    -- the invariant
    let Iv : Nat → Hp → Prop := fun i H' => ∃ xs acc, H' A = some (.lst xs) ∧ Rqs (fun c => Z c ∨ c = A) H' xs acc ∧ VOk b (fun c => Zo c ∨ c = A) (fun c => Z c ∨ c = A) (wipe σ vs) H' (wipeE ρ vs) ∧ (∀ a o, H1 a = some o → ¬ b.B a → H' a = some o) ∧ lcGo g tt te Qd (ds.drop i) acc (wipeE ρ vs)
    refine ⟨fun i m H' => m = ds.length - i ∧ i ≤ ds.length ∧ Iv i H', ⟨ds.length, by simp, Nat.zero_le _, [], [], upd_same, .nil, v2, fun a o e _ => by rw [upd_ne (ne_of_none e hA)]; exact e, q1⟩, ?_⟩
    rintro i m H' ⟨rfl, hi, xs, acc, hx, rx, v', st, q'⟩
    by_cases hlt : i < ds.length
    · rw [List.drop_eq_getElem_cons hlt] at q'
      obtain ⟨go, yl⟩ := wk.go i ds[i] H' (List.getElem?_eq_getElem hlt) st v'.g
      refine .inr ⟨go, Iv (i + 1), fun H2 h2 => ⟨ds.length - (i + 1), by omega, rfl, hlt, h2⟩, fun w H3 y => ?_⟩
      obtain ⟨x3, g3, r3⟩ := yl w H3 y
      have v3 := v'.ex x3 g3
      refine ⟨H3, fun _ => True, _, _, _, ds[i], _, ⟨v3, fun _ _ e _ _ => e, fun _ _ _ _ _ => .inl trivial⟩, r3 _ (fun a z => z.imp id fun e => by rw [e]; exact hA) v'.dom, q', fun Z4 σ4 ρ4 sub sm f4 q4 => ?_⟩
      have ww : wipe (wipe σ vs) vs = wipe σ vs := wipe_same (js := vs) (σ := σ) (ρ := ρ) (ρ' := ρ) ⟨by rw [wipe_length], fun j hj => wipe_out hj, fun _ _ => rfl⟩ fun j h => h
      refine ⟨(wipe_same sm hjs).trans ww, ?_⟩
      have st3 : ∀ a o, H1 a = some o → ¬ b.B a → H3 a = some o := fun a o e n => x3 a o (st a o e n) n
      have hx3 : H3 A = some (.lst xs) := x3 A _ hx nbA
      refine ⟨_, _, _, _, _, f4.v, q4, fun k H5 x5 g5 q5 => ?_, fun c z H5 er _ _ _ h => h.elim⟩
      have st5 : ∀ a o, H1 a = some o → ¬ b.B a → H5 a = some o := fun a o e n => x5 a o (st3 a o e n) n
      have hx5 : H5 A = some (.lst xs) := x5 A _ hx3 nbA
      have v5 := v3.ex x5 g5
      have rx5 : Rqs (fun c => Z c ∨ c = A) H5 xs acc := v3.rqs x5 (v'.rqs x3 rx)
      cases k with
      | false => exact ⟨xs, acc, hx5, rx5, v5, st5, q5⟩
      | true =>
        refine ⟨_, _, _, _, _, f4.v.ex x5 g5, q5, fun u H6 d6 x6 g6 r6 ⟨p, ep, hz, q6⟩ => ?_, fun c z H6 er _ _ _ h => h.elim⟩
        subst ep
        have hx6 : H6 A = some (.lst xs) := x6 A _ hx5 nbA
        have rx6 := v5.rqs x6 rx5
        have v6 := v5.ex x6 g6
        have zo4 : ∀ c, (Zo c ∨ c = A) → Z4 c := f4.v.zo
        have r7 : Rq (fun c => Z c ∨ c = A) H6 u p := by
          refine Rq.mono (fun c z => ?_) (fun _ _ e _ => e) r6
          -- what the block's names own is what the def owns
          rcases v'.zi c z with z' | ⟨j, dj, h1, h2⟩
          · exact .inl (zo4 c z')
          · rcases wipeE_in h1 with ⟨h1, _⟩ | ⟨h1, hj⟩
            · cases h1
            · have hj' : j ∉ js := fun m => hj (hjs j m)
              have e4 := sm.env j hj'
              rw [wipeE_out h1 hj] at e4
              obtain ⟨c', h3, h4, _⟩ := f4.v.own j dj e4
              rw [sm.out j hj', h2] at h3
              cases h3
              exact .inl h4
        refine ⟨xs, hx6, by rw [rx6.length]; exact hz, xs ++ [u], acc ++ [p], upd_same, ?_, v6.outer (.inr rfl) nbA (fun P z => by rw [hx6] at z; cases z), fun a o e n => ?_, q6⟩
        · have mv : ∀ c o, H6 c = some o → ¬ (Z c ∨ c = A) → upd H6 A (.lst (xs ++ [u])) c = some o := fun c o e n => by rw [upd_ne (fun q => n (.inr q))]; exact e
          exact (rx6.mono (fun _ z => .inl z) mv).append (.cons (Rq.mono (fun _ z => .inl z) mv r7) .nil)
        · rw [upd_ne (ne_of_none e hA)]
          exact x6 a o (st5 a o e n) n
    · have e : ds.length = i := by omega
      rw [List.drop_eq_nil_of_le (by omega)] at q'
      refine .inl ⟨wk.stop i H' e st, ?_⟩
      have xx : Ex b H H' := fun a o e n => st a o (x1 a o e n) n
      exact l _ H' (.py (.list acc)) xx v'.g ⟨A, rfl, hA0, xs, hx, rx⟩ q', m⟩
end
section
variable {X : Cx} {b : Bg} {W : WX} {tg iter elt c : Expr} {ifs : List Expr} {scope : Scope} {own : List (Str × Nat)} {pos spos py : Pos} {ti : VIt} {js : List Nat} {g : VTg} {tt : VB} {te : VT} {i : Nat} {y : Str}
/-- a block's tests -/
def VTs (X : Cx) (b : Bg) (ifs : List Expr) (t : VB) : Prop := PTs X ifs (LB b noW t)
theorem pts_mono {t t' : TT} (h : PTs X ifs t) (m : ∀ σ H Q, t' σ H Q → t σ H Q) : PTs X ifs t' := ⟨fun pins s σ H Q I q => h.run pins s σ H Q I (m σ H Q q)⟩
theorem vts_nil : VTs X b [] wYes := pts_mono pts_nil fun σ H Q ⟨Zo, Z, ρ, Qd, Ed, v, q, l, _⟩ => l true H Ex.refl v.g q
theorem vts_one (h : VTe X b noW c tt) : VTs X b [c] tt := pts_one h
theorem vn_lc (hc : X.calm = true) (hN : X.N.Nodup) (hi : VIb X b W tg iter ti) (ok : BlkOk X.N X.env.scope scope own) (hjs : ∀ j ∈ js, j ∈ own.map (·.2))
    (hg : ∀ (s : Shared) (H : Hp) (C : Addr) (cl : List (Str × Addr)) (fp : List Addr), VG (X.blk s H scope (compEnvC scope cl C X.env) fp) b tg js g) (ht : ∀ (s : Shared) (H : Hp) (C : Addr) (cl : List (Str × Addr)) (fp : List Addr), VTs (X.blk s H scope (compEnvC scope cl C X.env) fp) b ifs tt)
    (he : ∀ (s : Shared) (H : Hp) (C : Addr) (cl : List (Str × Addr)) (fp : List Addr), VE (X.blk s H scope (compEnvC scope cl C X.env) fp) b noW elt te) (hs : ∀ x, foldedSetIterable iter X.env x = pure x := by intro _; rfl) :
    VN X b W (.ListComp elt [⟨tg, iter, ifs, 0⟩] scope pos) (vLc (own.map (·.2)) ti g tt te) :=
  pe_mono (pe_lc hc hN hi ok hg ht he hs) (lc_sound hjs)
theorem vs_setLc (hc : X.calm = true) (hN : X.N.Nodup) (hy : X.N[i]? = some y) (hyl : X.env.scope.names.lookup y = some .local) (hsw : swapsWith (.ListComp elt [⟨tg, iter, ifs, 0⟩] scope pos) (some (.Name y py)) spos.line X.env = pure true)
    (hi : VIb X b W tg iter ti) (ok : BlkOk X.N X.env.scope scope own) (hjs : ∀ j ∈ js, j ∈ own.map (·.2))
    (hg : ∀ (s : Shared) (H : Hp) (C : Addr) (cl : List (Str × Addr)) (fp : List Addr), VG (X.blk s H scope (compEnvC scope cl C X.env) fp) b tg js g) (ht : ∀ (s : Shared) (H : Hp) (C : Addr) (cl : List (Str × Addr)) (fp : List Addr), VTs (X.blk s H scope (compEnvC scope cl C X.env) fp) b ifs tt)
    (he : ∀ (s : Shared) (H : Hp) (C : Addr) (cl : List (Str × Addr)) (fp : List Addr), VE (X.blk s H scope (compEnvC scope cl C X.env) fp) b noW elt te) (hs : ∀ x, foldedSetIterable iter X.env x = pure x := by intro _; rfl) :
    VSt X b W (.Assign [.Name y py] (.ListComp elt [⟨tg, iter, ifs, 0⟩] scope pos) spos) (sSetN i (vLc (own.map (·.2)) ti g tt te)) :=
  vs_setN (ps_setLc hc hN hy hyl hsw hi ok hg ht he hs) (lc_sound hjs)
end
end VL
set_option Elab.async false
set_option linter.all false
set_option maxRecDepth 100000
set_option maxHeartbeats 4000000
namespace VL
open PySem PySem.Spec PyProof.Rows L2

/-! ### what a def promises, by values -/
abbrev SV := List D → (D → Prop) → (Er → Prop) → Prop
def spV (b : Bg) (S : SV) : Sp := fun vs H Q E => ∃ Z ds Qd Ed, Gd b Z H ∧ Rps b Z H vs ds ∧ S ds Qd Ed ∧ (∀ v H' d, Ex b H H' → b.G H' → Rp b Z H' v d → Qd d → Q v H') ∧ ∀ c x H' er, Ex b H H' → b.G H' → ErRp b Z H' c x er → Ed er → E c x H'
/-- the ends of a def's body -/
@[simp] def fin (Q : D → Prop) (E : Er → Prop) : VEnds := { nx := fun _ => Q (.py .none), rt := Q, bk := fun _ => False, ct := fun _ => False, ex := fun _ => E }
/-- the names' values at the entry -/
@[simp] def envOf (n : Nat) (ds : List D) : VEnv := ds.map Slot.shr ++ List.replicate (n - ds.length) .un
theorem Rps.at {b : Bg} {Z : Addr → Prop} {H : Hp} : ∀ {vs : List V} {ds : List D} {i : Nat} {d : D}, Rps b Z H vs ds → ds[i]? = some d → ∃ v, vs[i]? = some v ∧ Rp b Z H v d
  | _, _, _, _, .nil, e => by simp at e
  | _, _, 0, _, .cons r _, e => by simp at e; subst e; exact ⟨_, rfl, r⟩
  | _, _, i + 1, _, .cons _ t, e => by
    obtain ⟨y, h1, h2⟩ := Rps.at (i := i) t (by simpa using e)
    exact ⟨y, by simpa using h1, h2⟩
theorem envOf_at {n i : Nat} {ds : List D} {s : Slot} (h : (envOf n ds)[i]? = some s) : s = .un ∨ ∃ d, s = .shr d ∧ ds[i]? = some d := by
  unfold envOf at h
  by_cases hi : i < ds.length
  · rw [List.getElem?_append_left (by simpa using hi), List.getElem?_map] at h
    cases e : ds[i]? with
    | none => rw [e] at h; cases h
    | some d => rw [e] at h; cases h; exact .inr ⟨d, rfl, rfl⟩
  · rw [List.getElem?_append_right (by simpa using hi), List.getElem?_replicate] at h
    split at h
    · cases h; exact .inl rfl
    · cases h
theorem VOk.entry {b : Bg} {Z : Addr → Prop} {H : Hp} {N : List Str} {vs : List V} {ds : List D} (g : Gd b Z H) (r : Rps b Z H vs ds) (hl : vs.length ≤ N.length) : VOk b Z Z (L2.start N vs) H (envOf N.length ds) where
  g := g.g
  zb := g.zb
  zo := fun _ z => z
  dom := g.dom
  zi := fun _ z => .inl z
  own := fun i d e => by
    rcases envOf_at e with h | ⟨d', h, _⟩ <;> cases h
  inj := fun i j d e a h1 _ _ _ => by
    rcases envOf_at h1 with h | ⟨d', h, _⟩ <;> cases h
  shr := fun i d e => by
    rcases envOf_at e with h | ⟨d', h, hd⟩
    · cases h
    · cases h
      obtain ⟨v, hv, rv⟩ := r.at hd
      refine ⟨v, ?_, rv⟩
      unfold L2.start
      have hi : i < vs.length := (List.getElem?_eq_some_iff.mp hv).1
      rw [List.getElem?_append_left (by simpa using hi), List.getElem?_map, hv]
      rfl
  len := by
    unfold envOf L2.start
    rw [List.length_append, List.length_map, List.length_replicate, List.length_append, List.length_map, List.length_replicate, ← r.length]
abbrev WF (E : XK) : WX := fun c d _ H => E c d H
section
variable {P : Program} {w : World} {K : PySem.W.Frag} {mg : Str → Option Value} {base : Heap} {b : Bg} {k : Nat} {x qual : Str} {st : Stmt} {f : Addr} {fd : FuncData} {N ps : List Str} {S : SV}
theorem fin_link {t : VS} {H : Hp} {vs : List V} {Q : VK} {E : XK} (hlaw : ∀ ds Q E, S ds Q E → t (envOf N.length ds) (fin Q E)) (hl : vs.length ≤ N.length) (h : spV b S vs H Q E) :
    LS b (WF E) t { nx := fun _ H' => Q .non H', rt := Q } (L2.start N vs) H := by
  obtain ⟨Z, ds, Qd, Ed, g, r, s, l, m⟩ := h
  have x : ∀ {H'}, (∀ a o, H a = some o → ¬ b.B a → ¬ False → H' a = some o) → Ex b H H' := fun h a o e n => h a o e n not_false
  refine ⟨H, fun _ => False, Z, Z, envOf N.length ds, fin Qd Ed, ⟨VOk.entry g r hl, fun _ _ e _ _ => e, fun i d a e _ => ?_⟩, hlaw ds Qd Ed s, ⟨fun Z' σ' H' ρ' f' q => l .non H' (.py .none) (x f'.ext) f'.v.g Rq.non q, fun v H' d x1 g1 r1 q => l v H' d (x x1) g1 r1 q, fun _ _ _ _ _ q => q.elim, fun _ _ _ _ _ q => q.elim, fun c y Z' σ' H' ρ' er f' r' q => m c y H' er (x f'.ext) f'.v.g ?_ q⟩⟩
  · rcases envOf_at e with h | ⟨d', h, _⟩ <;> cases h
  · obtain ⟨h1, h2⟩ := r'
    refine ⟨h1, h2.imp id ?_⟩
    rintro ⟨a, xs, e1, e2, e3, e4⟩
    exact ⟨a, xs, e1, e2, fun z => e3 (f'.v.zo a z), e4.mono (fun c z => .inl (f'.v.zo c z)) fun _ _ e _ => e⟩
/-- a def of the text, by its body -/
theorem fnV (F : Fun K x qual st f fd) (Sc : FnScope N ps (defScope st)) {t : VS} (hlen : ∀ ds Q E, S ds Q E → ds.length = ps.length) (hps : ps.length ≤ N.length)
    (hbody : ∀ (cdv : Value) (A : Around) (outer : List Env) (s : Shared) (H : Hp) (E : XK), Room k (A.deeper (envOfC qual (defScope st) s.heap.objs.size f cdv)) →
      Takes (cxOf (L2.CX P w) P w K mg base N qual (defScope st) f cdv A outer s H E) (WF E) → VSs (cxOf (L2.CX P w) P w K mg base N qual (defScope st) f cdv A outer s H E) b (WF E) (defBody st) t)
    (hlaw : ∀ ds Q E, S ds Q E → t (envOf N.length ds) (fin Q E)) : FnOk P w K mg base (L2.CX P w) (k + 1) f fd ps (spV b S) := by
  have len : ∀ vs H Q E, spV b S vs H Q E → vs.length = ps.length := fun vs H Q E ⟨Z, ds, Qd, Ed, g, r, s, _⟩ => r.length.trans (hlen ds Qd Ed s)
  refine F.okX Sc len fun cdv A outer s H vs Q E hr h => ⟨_, hbody cdv A outer s H E hr (takes_of rfl rfl rfl rfl), fin_link hlaw (Nat.le_trans (Nat.le_of_eq (len _ _ _ _ h)) hps) h⟩
end
/-! ### calls -/
@[simp] def vCall (S : SV) (u : VA) : VT := fun ρ Q E => u ρ (fun ds => S ds Q E) E
section
variable {X : Cx} {b : Bg} {W : WX} {k : Nat} {f : Addr} {fd : FuncData} {ps : List Str} {S : SV} {x : Str} {e : Expr} {es : List Expr} {u : VA} {p pos : Pos}
theorem call_core {sp : Sp} {t : TA} (hu : t = LA b W u) (hs : sp = spV b S) : ∀ σ H Q, LE b W (RE b) (vCall S u) σ H Q → tCallS sp (WE W) t σ H Q := by
  subst hu hs
  exact fun σ H Q ⟨Zo, Z, ρ, Qd, Ed, v, q, l, m⟩ => ⟨Zo, Z, ρ, _, Ed, v, q, fun vs H1 ds x1 g1 r1 q1 => by
    have v1 := v.ex x1 g1
    exact ⟨Z, ds, Qd, Ed, v1.gd, r1, q1, fun y H2 d x2 g2 r2 q2 => l y H2 d (x1.trans x2) g2 r2 q2, fun c z H2 er x2 g2 r2 q2 => m c z H2 er (x1.trans x2) g2 r2 q2⟩, m⟩
theorem ve_call (F : FnOk X.prog X.w X.K X.mg X.base (L2.CX X.prog X.w) k f fd ps (spV b S)) (hr : Room k X.A) (tk : Takes X W) (hg : Gl X x) (hm : X.mg x = some (.ref f)) (hk : PySem.W.keepIn X.K (.ref f) = true) (hb : Binds X.K fd ps [])
    (ha : VAs X b W (e :: es) u) (hdb : (x == ("__debug__" : Str)) = false := by decide) (he : starEach (e :: es) X.env = (false, eval e X.env) :: starEach es X.env := by rfl) (hpl : (backTo pos (starEach es X.env)).any (·.1) = false := by rfl) :
    VE X b W (.Call (.Name x p) (e :: es) [] pos) (vCall S u) := pe_mono (pe_callS F hr hg hm hk hb (passAt tk) ha hdb he hpl) (call_core rfl rfl)
theorem pe_callS0 {sp : Sp} {E : L2.St → XK} (F : FnOk X.prog X.w X.K X.mg X.base (L2.CX X.prog X.w) k f fd ps sp) (hr : Room k X.A) (hg : Gl X x) (hm : X.mg x = some (.ref f)) (hk : PySem.W.keepIn X.K (.ref f) = true) (hb : Binds X.K fd ps [])
    (hx : ∀ σ, PassesAt (L2.CX X.prog X.w) X σ (E σ)) (hdb : (x == ("__debug__" : Str)) = false := by decide) : PE X (.Call (.Name x p) [] [] pos) (tCallS sp E tNil) :=
  ⟨fun pins s σ H Q I h => wpAny_Call_Name_kw (ld_glob I hg hm (PySem.W.callWith_K0 I.kIn hk (run_fnS (us := []) F hr hb (hx σ) I .nil h)) hdb)⟩
theorem ve_call0 (F : FnOk X.prog X.w X.K X.mg X.base (L2.CX X.prog X.w) k f fd ps (spV b S)) (hr : Room k X.A) (tk : Takes X W) (hg : Gl X x) (hm : X.mg x = some (.ref f)) (hk : PySem.W.keepIn X.K (.ref f) = true) (hb : Binds X.K fd ps [])
    (hdb : (x == ("__debug__" : Str)) = false := by decide) : VE X b W (.Call (.Name x p) [] [] pos) (vCall S vNil) :=
  pe_mono (pe_callS0 F hr hg hm hk hb (passAt tk) hdb) fun σ H Q ⟨Zo, Z, ρ, Qd, Ed, v, q, l, m⟩ => ⟨Z, [], Qd, Ed, v.gd, .nil, q, l, m⟩
/-- a constant of the module -/
theorem ve_glob {v : V} {d : PyData} {uu : Value} (hg : Gl X x) (hm : X.mg x = some uu) (r : RelV v uu) (rd : ∀ (Z : Addr → Prop) (H : Hp), Rq Z H v d) (hd : (x == ("__debug__" : Str)) = false := by decide) : VE X b W (.Name x pos) (vC (.py d)) :=
  ve_const (pe_glob hg hm r hd) rd
end
end VL
set_option Elab.async false
set_option linter.all false
set_option maxRecDepth 100000
set_option maxHeartbeats 4000000
namespace VL
open PySem PySem.Spec PyProof.Rows L2

/-! ### repr of plain data (dicts among it: none of the tracked dicts is the modules' own) -/
section
variable {X : Cx} {pins : List (Addr × Obj)} {σ : L2.St} {H : Hp} {s : Shared} {Z : Addr → Prop}
/-- what is known of a value to be shown -/
structure Shw (P : Program) (w : World) (h : Heap) (u : Value) (d : PyData) : Prop where
  rd : ∃ as, Reads h u d as
  rk : d.showable = true → d.shown.length ≤ sizeLine → ∃ bs, ReadAtMost h d.depth bs ∧ ReprK P w bs h d.depth u d.shown
  top : d.showable = true → d.shown.length ≤ sizeLine → ∀ (A : Around) (E : Value → Shared → Prop) (s : Shared) (Q : Value → Shared → Prop), A.guards = some [] → A.units + (d.depth + 1) < cLine → (∀ b o, h.get? b = some o → s.heap.get? b = some o) →
    (∀ h' u tk, (∀ b o, s.heap.get? b = some o → h'.get? b = some o) → Q (.str d.shown u) { s with heap := h', toks := tk }) → wpAny (model P w) A (call (.builtin "repr") [u]) Q E s
structure ShwA (P : Program) (w : World) (h : Heap) (us : List Value) (ds : List PyData) : Prop where
  rd : ∃ as, ReadsAll h us ds as
  rk : PyData.showableAll ds = true → (∀ t ∈ PyData.shownAll ds, t.length ≤ sizeLine) → ∃ bs, ReadAtMost h (PyData.depthAll ds) bs ∧ ReprAllK P w bs h (PyData.depthAll ds) us (PyData.shownAll ds)
theorem ShwA.nil {P : Program} {w : World} {h : Heap} : ShwA P w h [] [] := ⟨⟨_, .nil⟩, fun _ _ => ⟨[], (fun _ m => nomatch m), by simp only [PyData.shownAll]; exact .nil⟩⟩
theorem ShwA.cons {P : Program} {w : World} {h : Heap} {u : Value} {d : PyData} {us : List Value} {ds : List PyData} (a : Shw P w h u d) (l : ShwA P w h us ds) : ShwA P w h (u :: us) (d :: ds) := by
  refine ⟨?_, fun hs hz => ?_⟩
  · obtain ⟨as, ra⟩ := a.rd
    obtain ⟨bs, rb⟩ := l.rd
    exact ⟨_, .cons ra rb⟩
  · simp only [PyData.showableAll, Bool.and_eq_true] at hs
    simp only [PyData.shownAll] at hz
    obtain ⟨b1, m1, k1⟩ := a.rk hs.1 (hz _ List.mem_cons_self)
    obtain ⟨b2, m2, k2⟩ := l.rk hs.2 fun t ht => hz t (List.mem_cons_of_mem _ ht)
    have e1 : d.depth ≤ max d.depth (PyData.depthAll ds) := Nat.le_max_left _ _
    have e2 : PyData.depthAll ds ≤ max d.depth (PyData.depthAll ds) := Nat.le_max_right _ _
    refine ⟨b1 ++ b2, ?_, ?_⟩
    · simp only [PyData.depthAll]
      exact (m1.mono e1).append (m2.mono e2)
    · simp only [PyData.depthAll, PyData.shownAll]
      exact .cons ((k1.more fun b hb => List.mem_append.mpr (.inl hb)).level_le e1) (k2.more_le (fun b hb => List.mem_append.mpr (.inr hb)) e2)
section
variable {P : Program} {w : World} {h : Heap} {a : Addr} {o : Obj} {n : Nat}
theorem Shw.list {us : List Value} {ds : List PyData} (h1 : h.get? a = some o) (h2 : o.cls = .type "list") (h3 : o.data = .seq us.toArray n) (l : ShwA P w h us ds) : Shw P w h (.ref a) (.list ds) := by
  obtain ⟨as, ra⟩ := l.rd
  have r : Reads h (.ref a) (.list ds) _ := .list h1 h2 h3 ra
  refine ⟨⟨_, r⟩, fun hs hz => ?_, fun hs hz A E s Q hg hu hk hQ => ?_⟩
  rotate_left
  · simp only [PyData.showable] at hs
    simp only [PyData.shown] at hz hQ
    simp only [PyData.depth] at hu
    obtain ⟨bs, mb, kb⟩ := l.rk hs fun t ht => Nat.le_trans (listText_mem_le ht) hz
    have na : a ∉ bs := not_mem_of_deeper r (by simp only [PyData.depth]; omega) mb
    refine call_repr_slot (T := "list") (by omega) ⟨o, hk _ _ h1, h2⟩ F.slot_list_repr.toG ?_
    cases us with
    | nil =>
      cases ra
      simp only [PyData.shownAll, listText_nil] at hQ
      exact call_list_repr_empty ⟨o, hk _ _ h1, h2⟩ (hk _ _ h1) h3 ⟨_, _, rfl, hQ s.heap _ _ fun _ _ e => e⟩
    | cons u us => exact call_list_reprK h1 h2 h3 na (by simpa using kb.length_eq) (fun i y e => kb.item i y (by simpa using e)) hg (fun b _ => Clear.nil b) (by show A.units + 1 + _ < cLine; omega) hk (fun h' u tk kp => ⟨_, _, rfl, hQ h' u tk kp⟩) hz
  simp only [PyData.showable] at hs
  simp only [PyData.shown] at hz
  obtain ⟨bs, mb, kb⟩ := l.rk hs fun t ht => Nat.le_trans (listText_mem_le ht) hz
  have na : a ∉ bs := not_mem_of_deeper r (by simp only [PyData.depth]; omega) mb
  refine ⟨a :: bs, ReadAtMost.cons r (by simp only [PyData.depth]; omega) mb, ?_⟩
  simp only [PyData.depth, PyData.shown]
  cases us with
  | nil =>
    cases ra
    simp only [PyData.shownAll, listText_nil]
    exact ReprK.listEmpty h1 h2 h3
  | cons u us => exact ReprK.list h1 h2 h3 na (by simpa using kb.length_eq) fun i y e => kb.item i y (by simpa using e)
theorem Shw.tuple {us : List Value} {ds : List PyData} (h1 : h.get? a = some o) (h2 : o.cls = .type "tuple") (h3 : o.data = .seq us.toArray n) (l : ShwA P w h us ds) : Shw P w h (.ref a) (.tuple ds) := by
  obtain ⟨as, ra⟩ := l.rd
  have r : Reads h (.ref a) (.tuple ds) _ := .tuple h1 h2 h3 ra
  refine ⟨⟨_, r⟩, fun hs hz => ?_, fun hs hz A E s Q hg hu hk hQ => ?_⟩
  rotate_left
  · simp only [PyData.showable] at hs
    simp only [PyData.shown] at hz hQ
    simp only [PyData.depth] at hu
    obtain ⟨bs, mb, kb⟩ := l.rk hs fun t ht => Nat.le_trans (tupleText_mem_le ht) hz
    refine call_repr_slot (T := "tuple") (by omega) ⟨o, hk _ _ h1, h2⟩ F.slot_tuple_repr ?_
    exact call_tuple_reprK h1 h2 h3 (not_mem_of_deeper r (by simp only [PyData.depth]; omega) mb) kb hg (fun b _ => Clear.nil b) (by show A.units + 1 + _ < cLine; omega) hk (fun h' u tk kp => ⟨_, _, rfl, hQ h' u tk kp⟩) hz
  simp only [PyData.showable] at hs
  simp only [PyData.shown] at hz
  obtain ⟨bs, mb, kb⟩ := l.rk hs fun t ht => Nat.le_trans (tupleText_mem_le ht) hz
  refine ⟨a :: bs, ReadAtMost.cons r (by simp only [PyData.depth]; omega) mb, ?_⟩
  simp only [PyData.depth, PyData.shown]
  exact ReprK.tuple h1 h2 h3 (not_mem_of_deeper r (by simp only [PyData.depth]; omega) mb) kb
theorem Shw.dict {es : Array DictEntry} {ds : List (PyData × PyData)} (h1 : h.get? a = some o) (h2 : o.cls = .type "dict") (h3 : o.data = .dict es n) (lo : (a == sysModules) = false) (lk : ShwA P w h (es.toList.map (·.key)) (ds.map (·.1))) (lv : ShwA P w h (es.toList.map (·.val)) (ds.map (·.2))) : Shw P w h (.ref a) (.dict ds) := by
  obtain ⟨as, ra⟩ := lk.rd
  obtain ⟨bs, rb⟩ := lv.rd
  have r : Reads h (.ref a) (.dict ds) _ := .dict h1 h2 h3 ra rb
  refine ⟨⟨_, r⟩, fun hs hz => ?_, fun hs hz A E s Q hg hu hk hQ => ?_⟩
  rotate_left
  · simp only [PyData.showable] at hs
    simp only [PyData.shown] at hz
    simp only [PyData.shown, PyData.shownKv_eq] at hQ
    simp only [PyData.depth] at hu
    obtain ⟨s1, s2⟩ := PyData.showableKv_split ds hs
    obtain ⟨b1, m1, k1⟩ := lk.rk s1 fun t ht => let ⟨p, hp, hl⟩ := PyData.shownKv_key_le ds t ht; Nat.le_trans hl (Nat.le_trans (dictText_mem_le hp) hz)
    obtain ⟨b2, m2, k2⟩ := lv.rk s2 fun t ht => let ⟨p, hp, hl⟩ := PyData.shownKv_val_le ds t ht; Nat.le_trans hl (Nat.le_trans (dictText_mem_le hp) hz)
    have m : ReadAtMost h (PyData.depthKv ds) (b1 ++ b2) := (m1.mono (PyData.depthAll_keys_le ds)).append (m2.mono (PyData.depthAll_vals_le ds))
    refine call_repr_slot (T := "dict") (by omega) ⟨o, hk _ _ h1, h2⟩ F.slot_dict_repr ?_
    exact call_dict_reprK h1 h2 h3 lo (not_mem_of_deeper r (by simp only [PyData.depth]; omega) m) (ReprEntriesK.of_two es.toList _ _ (k1.more_le (fun b hb => List.mem_append.mpr (.inl hb)) (PyData.depthAll_keys_le ds)) (k2.more_le (fun b hb => List.mem_append.mpr (.inr hb)) (PyData.depthAll_vals_le ds)))
      hg (fun b _ => Clear.nil b) (by show A.units + 1 + _ < cLine; omega) hk (fun h' u tk kp => ⟨_, _, rfl, hQ h' u tk kp⟩) (by rw [← PyData.shownKv_eq]; exact hz)
  simp only [PyData.showable] at hs
  simp only [PyData.shown] at hz
  obtain ⟨s1, s2⟩ := PyData.showableKv_split ds hs
  obtain ⟨b1, m1, k1⟩ := lk.rk s1 fun t ht => let ⟨p, hp, hl⟩ := PyData.shownKv_key_le ds t ht; Nat.le_trans hl (Nat.le_trans (dictText_mem_le hp) hz)
  obtain ⟨b2, m2, k2⟩ := lv.rk s2 fun t ht => let ⟨p, hp, hl⟩ := PyData.shownKv_val_le ds t ht; Nat.le_trans hl (Nat.le_trans (dictText_mem_le hp) hz)
  have m : ReadAtMost h (PyData.depthKv ds) (b1 ++ b2) := (m1.mono (PyData.depthAll_keys_le ds)).append (m2.mono (PyData.depthAll_vals_le ds))
  refine ⟨a :: (b1 ++ b2), ReadAtMost.cons r (by simp only [PyData.depth]; omega) m, ?_⟩
  simp only [PyData.depth, PyData.shown, PyData.shownKv_eq]
  exact ReprK.dict h1 h2 h3 lo (not_mem_of_deeper r (by simp only [PyData.depth]; omega) m) (ReprEntriesK.of_two es.toList _ _ (k1.more_le (fun b hb => List.mem_append.mpr (.inl hb)) (PyData.depthAll_keys_le ds)) (k2.more_le (fun b hb => List.mem_append.mpr (.inr hb)) (PyData.depthAll_vals_le ds)))
theorem Shw.leaf {u : Value} {d : PyData} {as : List Addr} (r : Reads h u d as) (k : d.showable = true → d.shown.length ≤ sizeLine → ReprIs P w u d.shown)
    (t : d.showable = true → d.shown.length ≤ sizeLine → ∀ (A : Around) (E : Value → Shared → Prop) (s : Shared) (Q : Value → Shared → Prop), Q (.str d.shown s.toks) { s with toks := s.toks + 1 } → wpAny (model P w) A (call (.builtin "repr") [u]) Q E s) : Shw P w h u d :=
  ⟨⟨_, r⟩, fun hs hz => ⟨[], (fun _ m => nomatch m), .of_is (k hs hz) _ _ _⟩, fun hs hz A E s Q _ _ _ hQ => t hs hz A E s Q (hQ s.heap _ _ fun _ _ e => e)⟩
theorem Shw.none : Shw P w h .none .none := .leaf .none (fun _ _ => ReprIs.none) fun _ _ A E s Q q => PySem.P.repr_of_none q
theorem Shw.bool (k : Bool) : Shw P w h (.bool k) (.bool k) := .leaf (.bool k) (fun _ _ => ReprIs.bool k) fun _ _ A E s Q q => PySem.P.repr_of_bool q
theorem Shw.int (i : Int) (t : Tok) : Shw P w h (.int i t) (.int i) := .leaf (.int i t) (fun hs _ => ReprIs.int t (by simpa [PyData.showable] using hs)) fun hs _ A E s Q q => PySem.P.repr_of_int (by simpa [PyData.showable] using hs) q
theorem Shw.str (x : Str) (t : Tok) : Shw P w h (.str x t) (.str x) := .leaf (.str x t) (fun _ hz => ReprIs.str x t (by simpa only [PyData.shown] using hz)) fun _ hz A E s Q q => PySem.P.repr_of_str (by simpa only [PyData.shown] using q) (by simpa only [PyData.shown] using hz)
end
theorem shwKeys {P : Program} {w : World} {h : Heap} : ∀ {es : List DictEntry} {kvs : List (Key × V)} {vs : List (Key × Value)}, KV kvs vs → Pairs (mixKind P w) es vs → ShwA P w h (es.map (·.key)) (kvs.map fun p => kD p.1) ∧ Vals (kvs.map (·.2)) (es.map (·.val))
  | _, _, _, .nil, .nil => ⟨.nil, .nil⟩
  | _, _, _, .cons (a := p) (b := q) r t, .cons (e := en) hk hv hp => by
    obtain ⟨l1, l2⟩ := shwKeys (h := h) t hp
    obtain ⟨p1, p2⟩ := p
    obtain ⟨q1, q2⟩ := q
    obtain ⟨r1, r2⟩ := r
    have r1' : p1 = q1 := r1
    subst r1'
    refine ⟨?_, .cons (show L2.RelV p2 en.val by rw [hv]; exact r2) l2⟩
    rw [List.map_cons, List.map_cons]
    have kk : keyIs p1 en.key = true := hk
    rcases keyIs_shape kk with ⟨i, u, a1, a2⟩ | ⟨x, u, a1, a2⟩
    · subst a1
      rw [a2]
      exact .cons (.int i u) l1
    · subst a1
      rw [a2]
      exact .cons (.str x u) l1
mutual
theorem Rq.shw (I : Inv X pins σ H s) : ∀ {v : V} {d : PyData}, Rq Z H v d → ∀ u, RelV v u → Shw X.prog X.w s.heap u d
  | _, _, .non, _, r => by cases r; exact .none
  | _, _, .bl k, _, r => by cases r; exact .bool k
  | _, _, .int i, _, r => by obtain ⟨t, rfl⟩ := r; exact .int i t
  | _, _, .str x, _, r => by obtain ⟨t, rfl⟩ := r; exact .str x t
  | _, _, .lst e _ q, _, r => by
    cases r
    obtain ⟨its, rv, ⟨o, m, ho, hc, _, hd⟩, _⟩ := I.list (SqL.of e)
    exact .list ho hc hd (Rqs.shw I q _ rv)
  | _, _, .tup e _ _ q, _, r => by
    cases r
    obtain ⟨its, rv, ⟨o, ho, hc, m, hd⟩, _⟩ := I.tuple (SqT.th e)
    exact .tuple ho hc hd (Rqs.shw I q _ rv)
  | _, _, .dct e _ q, _, r => by
    cases r
    obtain ⟨_, lo, vs, kv, o, es, ep, ho, he, hd, _, hp, _⟩ := dk_of I.hok e
    obtain ⟨k1, k2⟩ := shwKeys (P := X.prog) (w := X.w) (h := s.heap) kv hp
    obtain ⟨l2, l3⟩ := Rqk.shw I q _ k2
    rw [l3] at k1
    exact .dict ho he.1 hd lo k1 l2
theorem Rqs.shw (I : Inv X pins σ H s) : ∀ {v : List V} {d : List PyData}, Rqs Z H v d → ∀ u, Vals v u → ShwA X.prog X.w s.heap u d
  | _, _, .nil, _, r => by cases r; exact .nil
  | _, _, .cons q t, _, r => by
    cases r with
    | cons r rr => exact .cons (Rq.shw I q _ r) (Rqs.shw I t _ rr)
theorem Rqk.shw (I : Inv X pins σ H s) : ∀ {v : List (Key × V)} {d : List (PyData × PyData)}, Rqk Z H v d → ∀ u, Vals (v.map (·.2)) u → ShwA X.prog X.w s.heap u (d.map (·.2)) ∧ v.map (fun p => kD p.1) = d.map (·.1)
  | _, _, .nil, _, r => by cases r; exact ⟨.nil, rfl⟩
  | _, _, .cons q t, _, r => by
    cases r with
    | cons r rr =>
      obtain ⟨h1, h2⟩ := Rqk.shw I t _ rr
      exact ⟨.cons (Rq.shw I q _ r) h1, by rw [List.map_cons, List.map_cons, h2]⟩
end
end
section
variable {X : Cx} {b : Bg} {W : WX} {e : Expr} {u : VA} {p pos : Pos}
/-- data that repr can show here -/
structure ReprOk (d : PyData) : Prop where
  sh : d.showable = true
  len : d.shown.length ≤ sizeLine
  dep : d.depth ≤ 40
@[simp] def gRepr : List D → (D → Prop) → Prop
  | [.py d], Q => ReprOk d ∧ Q (.py (.str d.shown))
  | _, _ => False
def rRepr : List V → Hp → VK → Prop := fun xs H Q => ∃ v d, xs = [v] ∧ Rq nz H v d ∧ d.showable = true ∧ d.shown.length ≤ sizeLine ∧ d.depth ≤ 40 ∧ Q (.str d.shown) H
theorem call_repr (hu : X.A.units + 64 < cLine) (hg : X.A.guards = some []) : CallR X (.builtin "repr") rRepr := by
  intro pins s σ H xs us Q I r ⟨v, d, e, q, h1, h2, h3, k⟩
  subst e
  obtain ⟨u, rfl, ru⟩ := vals1 r
  refine (Rq.shw I q _ ru).top h1 h2 X.A X.xe s _ hg (by omega) (fun _ _ e => e) fun h' t tk kp => ⟨.str d.shown, H, I.kept (t' := tk) kp, ⟨t, rfl⟩, k⟩
theorem rd_repr : CalD b (RE b) rRepr gRepr := by
  intro Z H vs ds Q Qd gd rx h k
  match ds, h, rx with
  | [.py d], ⟨⟨h1, h2, h3⟩, h⟩, rx =>
    obtain ⟨x, rfl, r⟩ := rx.one
    exact ⟨x, d, rfl, r.q, h1, h2, h3, k _ H (.py (.str _)) Ex.refl gd.g (.str _) h⟩
theorem ve_repr (hu : X.A.units + 64 < cLine) (hgd : X.A.guards = some []) (hg : Gl X "repr") (hm : X.mg "repr" = none) (ha : VXs X b W [e] u) (he : starEach [e] X.env = (false, eval e X.env) :: starEach [] X.env := by rfl) (hpl : (backTo pos (starEach [] X.env)).any (·.1) = false := by rfl) :
    VE X b W (.Call (.Name "repr" p) [e] [] pos) (vCal gRepr u) := ve_callB (call_repr hu hgd) rd_repr hg hm (by decide +kernel) ha (by decide) (by decide) he hpl
end
end VL
set_option Elab.async false
set_option linter.all false
set_option maxRecDepth 100000
set_option maxHeartbeats 4000000
namespace VL
open PySem PySem.Spec PyProof.Rows L2

/-! ### the law itself: called where nothing is being shown -/
structure FnG (P : Program) (w : World) (K : PySem.W.Frag) (mg : Str → Option Value) (base : Heap) (k : Nat) (f : Addr) (fd : FuncData) (ps : List Str) (sp : Sp) : Prop where
  run : ∀ (A : Around) (outer : List Env) (s : Shared) (H : Hp) (args : Args) (us : List Value) (vs : List V) (Q : VK) (E : XK), Room k A → A.guards = some [] → Env0 P w K mg base A outer s H → BindsTo s fd args (ps.zip us) → Vals vs us → sp vs H Q E →
    codeAny (model P w) A (.call (.ref f) args) (CR (L2.CX P w) outer P w H s Q E) s
section
variable {P : Program} {w : World} {K : PySem.W.Frag} {mg : Str → Option Value} {base : Heap} {k : Nat} {x qual : Str} {st : Stmt} {f : Addr} {fd : FuncData} {N ps : List Str} {sp : Sp}
theorem fnG (F : Fun K x qual st f fd) (S : FnScope N ps (defScope st)) (len : ∀ vs H Q E, sp vs H Q E → vs.length = ps.length)
    (hbody : ∀ (cdv : Value) (A : Around) (outer : List Env) (s : Shared) (H : Hp) (vs : List V) (Q : VK) (E : XK), Room k (A.deeper (envOfC qual (defScope st) s.heap.objs.size f cdv)) → (A.deeper (envOfC qual (defScope st) s.heap.objs.size f cdv)).guards = some [] → sp vs H Q E →
      ∃ t, PSs (cxOf (L2.CX P w) P w K mg base N qual (defScope st) f cdv A outer s H E) (defBody st) t ∧ t { nx := fun _ H' => Q .non H', rt := Q } (L2.start N vs) H) : FnG P w K mg base (k + 1) f fd ps sp := by
  obtain ⟨oc, od, kV, doc, pm, an, cdv, ct, osl, rfl, lk, hcd⟩ := F.ex
  refine ⟨fun A outer s H args us vs Q E hr hgd e0 hb rv hsp => ?_⟩
  have nl : s.heap.NoLimit := e0.mod.nolimit.keeps fun b o e => (e0.bs b o e).1
  have kin : K.In s.heap := e0.mod.kin.keeps fun b o e => (e0.bs b o e).1
  have kinds : ∀ y ∈ ps.zip us, (defScope st).names.lookup y.1 = some .local ∨ ((defScope st).names.lookup y.1 = some .cell ∧ ((cellsFrom (s.heap.objs.size + 1) (defScope st).names []).lookup y.1).isSome = true) := fun ⟨n, v⟩ hy =>
    (S.par n (List.of_mem_zip hy).1).imp id fun q => ⟨q, PySem.W.cellsFrom_some _ _ _ (.inl q)⟩
  refine codeAny_call_function hr.depth (kin _ _ lk) rfl S.co S.gen rfl (PySem.W.codeRec_of kin hcd) (hb _ _ _ _ (wpAny_newFunctionEnv_cells S.kind kinds fun env he s1 ic => ?_))
  subst he
  refine ⟨nl.keeps ic.toInCall.keep, codeAny_func ?_⟩
  obtain ⟨t, ht, hq⟩ := hbody cdv A outer s H vs Q E (hr.deeper _) hgd hsp
  refine wpAny_mono (ht.run [] s1 (L2.start N vs) H _ (inv_start S hr.hd e0 (len _ _ _ _ hsp) rv ic) hq) (fun fl s' hs => ?_) fun e s' hs => hs
  cases fl with
  | ret u =>
    obtain ⟨v, σ', H', J, rv', q⟩ := hs
    exact ⟨v, H', J.os, J.bare, J.base, J.hok, rv', q⟩
  | next =>
    obtain ⟨σ', H', J, q⟩ := hs
    exact ⟨.non, H', J.os, J.bare, J.base, J.hok, rfl, q⟩
  | brk => exact hs.elim fun _ h => h.elim fun _ h => h.2.elim
  | cont => exact hs.elim fun _ h => h.elim fun _ h => h.2.elim
end
/-- at the heap behind the top -/
theorem lawG {P : Program} {w : World} {K : PySem.W.Frag} {mg mb : Str → Option Value} {k : Nat} {fa a : Addr} {fd : FuncData} {x : Str} {sp : Sp} {s0 : Shared} {vs : List Value} {ns : List Int}
    (KX : K.In s0.heap) (hns : s0.heap.Ns mainGlobals mg) (hb : s0.heap.Ns builtinsNs mb) (hbb : ∀ x : Str, x ≠ "__name__" → mb x = bootBuiltins x) (hlim : s0.heap.NoLimit) (hgens : s0.gens = #[])
    (ha : s0.heap.get? a = some { cls := .type "list", data := .seq vs.toArray }) (hi : IntsAre vs ns) (hl : ns.length ≤ sizeLine) (hr : Room k callerA)
    (F : ∀ base : Heap, K.In base → base.Ns mainGlobals mg → FnG P w K mg base k fa fd [x] sp) (hbind : ∀ (s : Shared) (u : Value), BindsTo s fd ⟨[u], []⟩ [(x, u)])
    (hsp : ∀ H : Hp, Only H → SqL K H a (ns.map V.int) → sp [.ref a] H (fun v _ => v = .bl true) fun _ _ _ => False) :
    codeAny (model P w) callerA (.call (.ref fa) ⟨[.ref a], []⟩) (fun r s' => r = .ok (.ret (.bool true)) ∧ OldK s0.heap s'.heap ∧ s'.os = s0.os ∧ AllBare s'.gens) s0 := by
  have rv := vals_ints hi
  -- whatever is tracked is the script
  have go : ∀ H : Hp, Only H → SqL K H a (ns.map V.int) → HOk P w H s0.heap → (∀ b, H b ≠ none → b = a) → (H a ≠ none → K.lookup a = none) →
      codeAny (model P w) callerA (.call (.ref fa) ⟨[.ref a], []⟩) (fun r s' => r = .ok (.ret (.bool true)) ∧ OldK s0.heap s'.heap ∧ s'.os = s0.os ∧ AllBare s'.gens) s0 := by
    intro H hO hS hok hA hK
    have only_a : ∀ {b : Addr} {u : HO}, H b = some u → b = a := fun {b u} q => hA b (by rw [q]; simp)
    have low : ∀ {b : Addr} {o : Obj}, s0.heap.get? b = some o → H b = none → (hidT s0.heap H).get? b = some o := fun e n => hidT_get e n
    have nsk : ∀ {b : Addr} {m : Str → Option Value}, s0.heap.Ns b m → (hidT s0.heap H).Ns b m := fun {b m} ⟨o, es, ep, e, d, r⟩ => ⟨o, es, ep, low e (by
      cases q : H b with
      | none => rfl
      | some u =>
        rw [only_a q, ha] at e
        cases e
        have d' : Data.seq vs.toArray _ = Data.dict es ep := d
        cases d'), d, r⟩
    have kb : K.In (hidT s0.heap H) := fun b o e => low (KX b o e) (by
      cases q : H b with
      | none => rfl
      | some u =>
        have eb := only_a q
        subst eb
        rw [hK (by rw [q]; simp)] at e
        cases e)
    obtain ⟨mc, c1, c2⟩ := hlim
    have env : Env0 P w K mg (hidT s0.heap H) callerA [] s0 H := ⟨rfl, ⟨kb, nsk hns, ⟨mb, nsk hb, hbb⟩, ⟨mc, nsk c1, c2⟩⟩, fun b o e => of_hidT e, Nat.le_of_eq (hidT_size _ _), trivial, (fun b m => nomatch (show b ∈ ([] : List Addr) from m)), hok, .of_eq hgens⟩
    refine codeAny_mono ((F _ kb (nsk hns)).run callerA [] s0 H ⟨[.ref a], []⟩ [.ref a] [.ref a] _ _ hr rfl env (hbind s0 (.ref a)) (.cons rfl .nil) (hsp H hO hS)) fun r s' h => ?_
    match r, h with
    | .error e, h => obtain ⟨_, _, _, _, _, _, _, _, _, _, _, _, z⟩ := h; exact z.elim
    | .ok .next, h => exact (show False from h).elim
    | .ok .brk, h => exact (show False from h).elim
    | .ok .cont, h => exact (show False from h).elim
    | .ok (.ret u), h =>
      obtain ⟨v, H', os, bare, un, hok', r', q⟩ := h
      have ev : v = .bl true := q
      subst ev
      obtain rfl : u = Value.bool true := r'
      refine ⟨rfl, OldK.of_keep fun b o e => ?_, os, bare⟩
      cases q : H b with
      | none => exact un.keep b o e q (fun z => nomatch (show b ∈ ([] : List Addr) from z)) (by simp)
      | some u =>
        rcases hO b with z | ⟨ob, xs, z⟩
        · rw [q] at z; cases z
        · obtain ⟨e1, _⟩ := hok b _ z
          obtain ⟨e2, _⟩ := hok' b _ (un.frzs b ob _ z)
          rw [e] at e1; cases e1
          exact e2
  cases hk : K.lookup a with
  | some o =>
    have e := KX a o hk
    rw [ha] at e
    cases e
    refine go (fun _ => none) (fun _ => .inl rfl) (.inr ⟨_, vs.toArray, _, hk, rfl, rfl, rfl, by rw [List.size_toArray, hi.length]; exact hl, by simpa using rv⟩) (fun b u z => nomatch (show (none : Option HO) = some u from z)) (fun b z => absurd rfl z) fun z => absurd rfl z
  | none =>
    have at1 : ∀ b, b ≠ a → (if b = a then some (HO.frz { cls := .type "list", data := .seq vs.toArray } (.lst (ns.map V.int))) else none) = none := fun b hb => if_neg hb
    refine go (fun b => if b = a then some (.frz { cls := .type "list", data := .seq vs.toArray } (.lst (ns.map V.int))) else none) (fun b => ?_) (.inl (.inr ⟨_, if_pos rfl⟩)) (fun b u z => ?_) (fun b z => Classical.byContradiction fun n => z (at1 b n)) fun _ => hk
    · by_cases hb : b = a
      · exact .inr ⟨_, _, if_pos hb⟩
      · exact .inl (at1 b hb)
    · by_cases hb : b = a
      · have z' := (if_pos hb).symm.trans z
        cases z'
        subst hb
        exact ⟨ha, by rw [List.length_map]; exact hl, vs, _, rv, ha⟩
      · have z' := (at1 b hb).symm.trans z
        cases z'
/-- the end -/
theorem walkG {l : PySem.W.OpenLaw} {n k : Nat} {q : Program} {loose : List Str} {XP : (Str → Option Value) → Heap → Prop} {YP : World → Heap → Prop} {d : DefRec} {K : Params → PySem.W.Frag} {sp : World → Sp} {x : Str}
    (hn : l.most = some n) (hn2 : n ≤ sizeLine) (hdf : d.params.defaults = []) (hr : Room k callerA) (hY : ∀ (w : World) (h : Heap), YP w h → (K w.params).In h)
    (F : ∀ (w : World) (mg : Str → Option Value) (fa : Addr) (h : Heap), (K w.params).In h → h.Ns mainGlobals mg → mg d.name = some (.ref fa) →
      ∃ fd : FuncData, (∀ (s : Shared) (u : Value), BindsTo s fd ⟨[u], []⟩ [(x, u)]) ∧ ∀ base : Heap, (K w.params).In base → base.Ns mainGlobals mg → FnG l.prog w (K w.params) mg base k fa fd [x] (sp w))
    (hsp : ∀ (w : World) (H : Hp) (a : Addr) (ns : List Int), ns.length ≤ n → Only H → SqL (K w.params) H a (ns.map V.int) → sp w [.ref a] H (fun v _ => v = .bl true) fun _ _ _ => False) :
    PySem.W.WalkO q loose XP YP l.row.toRowW d [] (fun f vs => PySem.call f vs) := by
  refine Att.attach_call hn hdf fun w s s0 mg mb fa o pm cd doc a vs ns G Y ho hd hcd hmg hobj hints hlen hg => ?_
  obtain ⟨fd, hb, hF⟩ := F w mg fa _ (hY w _ Y) G.T.g hmg
  exact lawG (hY w _ Y) G.T.g G.T.b G.T.builtins G.T.nolimit hg hobj hints (Nat.le_trans hlen hn2) hr hF hb fun H hO hS => hsp w H a ns hlen hO hS
end VL
set_option Elab.async false
set_option linter.all false
set_option maxRecDepth 100000
set_option maxHeartbeats 4000000
namespace VL
open PySem PySem.Spec PyProof.Rows L2

/-! ### a bag of drawn numbers: a dict with two lists, its own -/
abbrev kG : Key := .inr "great"
abbrev kC : Key := .inr "cells"
abbrev kN : Key := .inr "drawn"
def bagAt (r l1 l2 : Addr) (gs ds : List Int) (n : Int) (H : Hp) : Prop :=
  H r = some (.dK [(kG, .ref l1), (kC, .ref l2), (kN, .int n)]) ∧ H l1 = some (.lst (gs.map V.int)) ∧ H l2 = some (.lst (ds.map V.int)) ∧ gs.length ≤ 63 ∧ ds ≠ [] ∧ l1 ≠ l2
theorem bagAt.rl1 {r l1 l2 : Addr} {gs ds : List Int} {n : Int} {H : Hp} (h : bagAt r l1 l2 gs ds n H) : r ≠ l1 := fun e => by rw [e] at h; have h1 := h.1; rw [h.2.1] at h1; cases h1
theorem bagAt.rl2 {r l1 l2 : Addr} {gs ds : List Int} {n : Int} {H : Hp} (h : bagAt r l1 l2 gs ds n H) : r ≠ l2 := fun e => by rw [e] at h; have h1 := h.1; rw [h.2.2.1] at h1; cases h1
/-- the surroundings: the classes, the bag -/
def bagB (cls : Str → Addr) (r l1 l2 : Addr) : Bg where
  cls := cls
  B := fun a => a = r ∨ a = l1 ∨ a = l2
  G := fun H => ∃ gs ds n, bagAt r l1 l2 gs ds n H
  loc := fun H H' h _ ⟨gs, ds, n, h1, h2, h3, h4⟩ => ⟨gs, ds, n, by rw [h r (.inl rfl)]; exact h1, by rw [h l1 (.inr (.inl rfl))]; exact h2, by rw [h l2 (.inr (.inr rfl))]; exact h3, h4⟩
  dom := fun H a ⟨gs, ds, n, h1, h2, h3, _⟩ h => by
    rcases h with rfl | rfl | rfl
    · rw [h1]; simp
    · rw [h2]; simp
    · rw [h3]; simp
/-- at a call: nothing but the bag is changed -/
def KeepB (r l1 l2 : Addr) (H H' : Hp) : Prop := ∀ a o, H a = some o → a ≠ r → a ≠ l1 → a ≠ l2 → H' a = some o
theorem KeepB.ex {cls : Str → Addr} {r l1 l2 : Addr} {H H' : Hp} (k : KeepB r l1 l2 H H') : Ex (bagB cls r l1 l2) H H' := fun a o e n => k a o e (fun h => n (.inl h)) (fun h => n (.inr (.inl h))) fun h => n (.inr (.inr h))
theorem KeepB.refl {r l1 l2 : Addr} {H : Hp} : KeepB r l1 l2 H H := fun _ _ e _ _ _ => e
theorem KeepB.trans {r l1 l2 : Addr} {H H1 H2 : Hp} (h : KeepB r l1 l2 H H1) (k : KeepB r l1 l2 H1 H2) : KeepB r l1 l2 H H2 := fun a o e n1 n2 n3 => k a o (h a o e n1 n2 n3) n1 n2 n3
theorem KeepB.upd {r l1 l2 p : Addr} {H H1 : Hp} {o : HO} (h : KeepB r l1 l2 H H1) (hp : p = r ∨ p = l1 ∨ p = l2 ∨ H1 p = none) : KeepB r l1 l2 H (upd H1 p o) := fun a u e n1 n2 n3 => by
  have e1 := h a u e n1 n2 n3
  rw [upd_ne (fun q => by
    subst q
    rcases hp with q | q | q | q
    · exact n1 q
    · exact n2 q
    · exact n3 q
    · rw [q] at e1; cases e1)]
  exact e1
/-- what the def that draws one number promises: below many, in the heap -/
def spTake : Sp := fun vs H Q _ => ∃ r l1 l2 gs ds n, ∃ m : Int, vs = [.ref r, .int m] ∧ bagAt r l1 l2 gs ds n H ∧ 0 < m ∧ m < 1073741824 ∧ ∀ H' gs' n' x, KeepB r l1 l2 H H' → bagAt r l1 l2 gs' ds n' H' → 0 ≤ x → x < m → Q (.int x) H'
/-- .. over values -/
@[simp] def svTake (r : Addr) : SV
  | [.raw v, .py (.int m)], Q, _ => v = .ref r ∧ 0 < m ∧ m < 1073741824 ∧ ∀ x : Int, 0 ≤ x → x < m → Q (.py (.int x))
  | _, _, _ => False
theorem svTake_ex {r : Addr} : ∀ {ds : List D} {Q : D → Prop} {E : Er → Prop}, svTake r ds Q E → ∃ m : Int, ds = [.raw (.ref r), .py (.int m)] ∧ 0 < m ∧ m < 1073741824 ∧ ∀ x : Int, 0 ≤ x → x < m → Q (.py (.int x))
  | [.raw v, .py (.int m)], _, _, ⟨e, h⟩ => ⟨m, by rw [e], h⟩
theorem raw_is {b : Bg} {Z : Addr → Prop} {H : Hp} {v u : V} (r : Rp b Z H v (.raw u)) : v = u := r
theorem take_v {P : Program} {w : World} {K : PySem.W.Frag} {mg : Str → Option Value} {base : Heap} {k : Nat} {f : Addr} {fd : FuncData} {ps : List Str} {CX : CXT} {cls : Str → Addr} {r l1 l2 : Addr} (h : FnOk P w K mg base CX k f fd ps spTake) : FnOk P w K mg base CX k f fd ps (spV (bagB cls r l1 l2) (svTake r)) :=
  h.imp fun vs H Q E ⟨Z, ds, Qd, Ed, g, rp, hh, l, _⟩ => by
    obtain ⟨m, ed, h1, h2, q⟩ := svTake_ex hh
    subst ed
    obtain ⟨x, y, rfl, rx, ry⟩ := rbs2 rp
    have ex : x = .ref r := rx
    have ey : y = .int m := Rb.int (b := bagB cls r l1 l2) (.inl ry)
    subst ex ey
    obtain ⟨gs, ds, n, hb⟩ := g.g
    exact ⟨r, l1, l2, gs, ds, n, m, rfl, hb, h1, h2, fun H' gs' n' x kp b' x0 x1 => l (.int x) H' (.py (.int x)) kp.ex ⟨gs', ds, n', b'⟩ (.int x) (q x x0 x1)⟩
def AllIn (xs : List PyData) (R : PyData → Prop) : Prop := ∀ y ∈ xs, R y
theorem AllIn.of {xs : List PyData} {R S : PyData → Prop} (h : ∀ y ∈ xs, S y) (k : ∀ y, S y → R y) : AllIn xs R := fun y hy => k y (h y hy)
/-- an item of a list or tuple, by a drawn number -/
@[simp] def svPick (r : Addr) : SV
  | [.raw v, .py (.list xs)], Q, _ => v = .ref r ∧ xs ≠ [] ∧ xs.length < 1073741824 ∧ AllIn xs fun y => Q (.py y)
  | [.raw v, .py (.tuple xs)], Q, _ => v = .ref r ∧ xs ≠ [] ∧ xs.length < 1073741824 ∧ AllIn xs fun y => Q (.py y)
  | [.raw v, .py (.str z)], Q, _ => v = .ref r ∧ z.length ≤ sizeLine ∧ signsD z ≠ [] ∧ AllIn (signsD z) fun y => Q (.py y)
  | _, _, _ => False
theorem signsD_len (z : Str) : (signsD z).length = z.length := by unfold signsD; rw [List.length_map, Array.length_toList]; rfl
theorem svPick_ex {r : Addr} : ∀ {ds : List D} {Q : D → Prop} {E : Er → Prop}, svPick r ds Q E → ∃ p xs, ds = [.raw (.ref r), .py p] ∧ (p = .list xs ∨ p = .tuple xs ∨ ∃ z, p = .str z ∧ z.length ≤ sizeLine ∧ xs = signsD z) ∧ xs ≠ [] ∧ xs.length < 1073741824 ∧ ∀ y, y ∈ xs → Q (.py y)
  | [.raw v, .py (.list xs)], _, _, ⟨e, h⟩ => ⟨_, xs, by rw [e], .inl rfl, h⟩
  | [.raw v, .py (.tuple xs)], _, _, ⟨e, h⟩ => ⟨_, xs, by rw [e], .inr (.inl rfl), h⟩
  | [.raw v, .py (.str z)], _, _, ⟨e, h1, h2, h3⟩ => ⟨_, _, by rw [e], .inr (.inr ⟨z, rfl, h1, rfl⟩), h2, by rw [signsD_len]; rw [sizeLine_eq] at h1; omega, h3⟩
/-- what the first def promises: a new bag -/
def spOpened (K : PySem.W.Frag) : Sp := fun vs H Q _ => ∃ (a : Addr) (ns : List Int), vs = [.ref a] ∧ SqL K H a (ns.map V.int) ∧ ns.length ≤ 63 ∧ ∀ r l1 l2 gs ds n H', (∀ c o, H c = some o → H' c = some o) → H r = none → H l1 = none → H l2 = none → bagAt r l1 l2 gs ds n H' → Q (.ref r) H'
end VL
namespace VL
open PySem
theorem plain_ints (l : List Int) : PyData.plainAll (l.map PyData.int) = true := by
  induction l with
  | nil => rfl
  | cons a l ih => simp [PyData.plainAll, PyData.plain, ih]
end VL
namespace VL
open PySem PySem.Spec PyProof.Rows L2
/-- no surroundings -/
def bg0 : Bg := ⟨fun _ => 0, fun _ => False, fun _ => True, fun _ _ _ _ _ => trivial, fun _ _ _ h => h.elim⟩
theorem VOk.plain {σ : L2.St} {H : Hp} {ρ : VEnv} (hl : ρ.length = σ.length) (h : ∀ (i : Nat) (s : Slot), ρ[i]? = some s → s = .un ∨ ∃ d v, s = .shr d ∧ σ[i]? = some (some v) ∧ Rp bg0 nz H v d) : VOk bg0 nz nz σ H ρ where
  g := trivial
  zb := fun _ z => z
  zo := fun _ z => z
  dom := fun _ z => z.elim
  zi := fun _ z => z.elim
  own := fun i d e => by rcases h i _ e with q | ⟨d', v, q, _⟩ <;> cases q
  inj := fun i j d e a h1 _ _ _ => by rcases h i _ h1 with q | ⟨d', v, q, _⟩ <;> cases q
  shr := fun i d e => by
    rcases h i _ e with q | ⟨d', v, q, h1, h2⟩
    · cases q
    · cases q; exact ⟨v, h1, h2⟩
  len := hl
theorem cut_ints (ns : List Int) (lo hi : Option Int) : ∃ ms : List Int, cutV (ns.map V.int) lo hi = ms.map V.int ∧ ms.length ≤ ns.length := by
  refine ⟨cutL ns lo hi, ?_, ?_⟩
  · unfold cutV cutL
    rw [List.length_map, List.map_take, List.map_drop]
  · unfold cutL
    rw [List.length_take, List.length_drop]
    omega
abbrev absI (i : Int) : Int := if i < 0 then -i else i
def bigs (k : Int) (cs : List Int) : List Int := cs.filter fun c => decide (k ≤ c)
theorem bigs_go {k : Int} {tt : VB} {te : VT} {ρ : VEnv} {Q : D → Prop} (h : 2 < ρ.length) (htt : ∀ (ρ : VEnv) (c : Int) (Q : Bool → Prop) (E : Er → Prop), ρ[2]? = some (.shr (.py (.int c))) → Q (decide (k ≤ c)) → tt ρ Q E)
    (hte : ∀ (ρ : VEnv) (d : D) (Q : D → Prop) (E : Er → Prop), ρ[2]? = some (.shr d) → Q d → te ρ Q E) : ∀ (cs acc : List Int), acc.length + cs.length ≤ 1000 → Q (.py (.list ((acc ++ bigs k cs).map PyData.int))) → lcGo (tgName 2) tt te Q ((cs.map PyData.int).map D.py) (acc.map PyData.int) ρ
  | [], acc, _, q => by rw [bigs, List.filter_nil, List.append_nil] at q; exact q
  | c :: cs, acc, hl, q => by
    refine ⟨h, htt _ c _ _ (List.getElem?_set_self h) (ite2 (fun hc => hte _ (.py (.int c)) _ _ (List.getElem?_set_self h) ⟨.int c, rfl, ?_, ?_⟩) fun hc => ?_)⟩
    · rw [List.length_map]
      rw [List.length_cons] at hl
      exact Nat.lt_of_le_of_lt (show acc.length ≤ 1000 by omega) (by decide)
    · have e : acc.map PyData.int ++ [PyData.int c] = (acc ++ [c]).map PyData.int := by simp
      rw [e]
      refine bigs_go h htt hte cs (acc ++ [c]) (by simp at hl ⊢; omega) ?_
      rw [bigs, List.filter_cons, if_pos hc] at q
      rw [List.append_assoc]
      exact q
    · refine bigs_go h htt hte cs acc (by simp at hl; omega) ?_
      rw [bigs, List.filter_cons, if_neg hc] at q
      exact q
end VL
set_option Elab.async false
set_option linter.all false
set_option maxRecDepth 100000
set_option maxHeartbeats 4000000
namespace VL
open PySem PySem.Spec PyProof.Rows L2
open Sem (wp)

/-! ### x[::-1] -/
section
variable {prog : Program} {w : World} {A : Around} {E : Value → Shared → Prop} {s : Shared}
theorem applied_back {sl : Addr} {tk : Tok} {n : Nat} {Q : Int × Int × Nat → Shared → Prop} (hs : s.heap.IsSliceOf sl .none .none (.int (-1) tk)) (h : Q ((n : Int) - 1, -1, n) s) : wpAny (model prog w) A (Builtin.Slice.sliceApplied (.ref sl) (pure (n : Int))) Q E s := by
  obtain ⟨os, hos, hcs, hds⟩ := id hs
  unfold Builtin.Slice.sliceApplied Builtin.Slice.sliceFields
  refine wpAny_bind (wpAny_bind (wpAny_field hos hds (x := .none) rfl (wpAny_bind (wpAny_field hos hds (x := .none) rfl (wpAny_bind (wpAny_field hos hds (x := .int (-1) tk) rfl (wpAny_pure ?_)))))))
  refine wpAny_bind (HT.slicePart_ (.int (-1) tk) ?_)
  show wpAny _ _ (if ((-1 : Int) == 0) = true then _ else _) _ _ s
  rw [if_neg (by decide)]
  refine wpAny_bind (HT.slicePart_ .none (wpAny_bind (HT.slicePart_ .none (wpAny_bind (wpAny_pure ?_)))))
  have e : Builtin.Slice.slicePlaces ((n : Int) - 1) (-1) (-1) = n := by
    unfold Builtin.Slice.slicePlaces
    rw [if_neg (by decide)]
    split
    · rw [Int.neg_neg, Int.ediv_one]; omega
    · omega
  show wpAny _ _ (pure ((n : Int) - 1, (-1 : Int), Builtin.Slice.slicePlaces ((n : Int) - 1) (-1) (-1))) _ _ s
  rw [e]
  exact wpAny_pure h
theorem pick_back (xs : Array Value) : ((List.range xs.size).filterMap fun (m : Nat) => xs[((xs.size : Int) - 1 + (m : Int) * (-1)).toNat]?).toArray = xs.toList.reverse.toArray := by
  have e : (fun (m : Nat) => xs[((xs.size : Int) - 1 + (m : Int) * (-1)).toNat]?) = (fun i => xs[i]?) ∘ fun (m : Nat) => ((xs.size : Int) - 1 + (m : Int) * (-1)).toNat := rfl
  rw [e, ← List.filterMap_map]
  have e2 : (List.range xs.size).map (fun (m : Nat) => ((xs.size : Int) - 1 + (m : Int) * (-1)).toNat) = (List.range xs.size).reverse := by
    rw [← PySem.W.krv_range]
    refine List.map_congr_left fun m hm => ?_
    have := List.mem_range.mp hm
    omega
  rw [e2, List.filterMap_reverse, PySem.W.krv_all]
theorem tuple_back {t sl : Addr} {tk : Tok} {items : Array Value} {Q : Value → Shared → Prop} (ht : IsTup s.heap t items) (hs : s.heap.IsSliceOf sl .none .none (.int (-1) tk)) (hsz : items.size ≤ sizeLine)
    (h : Q (.ref s.heap.objs.size) { s with heap := s.heap.push { cls := .type "tuple", data := .seq items.toList.reverse.toArray } }) : wpAny (model prog w) A (getItem (.ref t) (.ref sl)) Q E s := by
  obtain ⟨os, hos, hcs, hds⟩ := id hs
  have hTs : s.TypeIs (.ref sl) "slice" := ⟨os, hos, hcs⟩
  have hz : sizeOk (.seq items.toList.reverse.toArray) := by
    show items.toList.reverse.toArray.size ≤ sizeLine
    rw [List.size_toArray, List.length_reverse, Array.length_toList]
    exact hsz
  unfold getItem
  try with_reducible refine wpAny_holding ?_
  first | refine wpAny_bind (wpAny_pure ?_) | skip
  refine wpAny_bind (wpAny_sequenceKey ht.typeIs (by decide) ?_)
  refine wpAny_bind (wpAny_callSpecial?_slot (name := Str.ofString "__getitem__") ht.typeIs PyProof.Rows.slot_tuple_getitem (wpAny_call_entry PyProof.Rows.slot_tuple_getitem ht.typeIs PyProof.Rows.entry_tuple_getitem ?_ (PyProof.Rows.args_tuple_getitem _ _)))
  show wpAny _ _ (Builtin.Tuple.tupleItemsOf (.ref t) >>= _) _ _ s
  refine wpAny_bind (tupleItemsOf_ ht (wpAny_bind (wpAny_typeOf hTs ?_)))
  rw [if_pos (by decide)]
  refine wpAny_bind (applied_back hs ?_)
  show wpAny _ _ (if ((items.size : Int) - 1 == 0 && (-1 : Int) == 1 && items.size == items.size) = true then _ else _) _ _ s
  rw [if_neg (by rw [show ((-1 : Int) == 1) = false by decide, Bool.and_false, Bool.false_and]; exact Bool.false_ne_true), pick_back]
  first
    | exact wpAny_bind (m := Builtin.Tuple.tupleExact _) (wpAny_newObj_type (wpAny_pure ⟨_, rfl, wpAny_pure h⟩) hz)
    | exact wpAny_bind (m := Builtin.Tuple.tupleExact _) (wpAny_newObj_type (wpAny_bind (wpAny_pure (wpAny_pure ⟨_, rfl, wpAny_pure h⟩))) hz)
    | exact wpAny_bind (wpAny_bind (m := Builtin.Tuple.tupleExact _) (wpAny_newObj_type (wpAny_pure (wpAny_pure ⟨_, rfl, wpAny_pure h⟩)) hz))
    | exact wpAny_bind (wpAny_bind (m := Builtin.Tuple.tupleExact _) (wpAny_newObj_type (wpAny_pure ⟨_, rfl, wpAny_pure h⟩) hz))
end
section
variable {X : Cx} {e st : Expr} {te : TE} {tl : TO} {p2 pos : Pos}
/-- a rule for the backward slice of a value -/
def BkR (X : Cx) (r : V → Hp → VK → Prop) : Prop :=
  ∀ (pins : List (Addr × Obj)) (s : Shared) (σ : L2.St) (H : Hp) (x : V) (v : Value) (tk : Tok) (sl : Addr) (Q : VK), Inv X pins σ H s → RelV x v → s.heap.IsSliceOf sl .none .none (.int (-1) tk) → r x H Q →
    ∃ T id, typeLookup (.type T) "__getitem__" = pure (some (.builtin id)) ∧ s.TypeIs v T ∧ wpAny (model X.prog X.w) X.A (getItem v (.ref sl)) (EP X pins σ Q) X.xe s
theorem BkR.or {r r' : V → Hp → VK → Prop} (h : BkR X r) (h' : BkR X r') : BkR X (fun x H Q => r x H Q ∨ r' x H Q) := fun pins s σ H x v tk sl Q I rx hs q => q.elim (h pins s σ H x v tk sl Q I rx hs) (h' pins s σ H x v tk sl Q I rx hs)
def tBk (r : V → Hp → VK → Prop) (te : TE) (tl : TO) : TE := fun σ H Q => te σ H fun x H1 => tl σ H1 fun l H2 => l = some (-1) ∧ r x H2 Q
theorem pe_back {r : V → Hp → VK → Prop} (hr : BkR X r) (he : PE X e te) (hl : PO X (some st) tl) : PE X (.Subscript e (.Slice none none (some st) p2) pos) (tBk r te tl) := by
  refine ⟨fun pins s σ H Q I h => ?_⟩
  refine Subscript_ (thn (he.run pins s σ H _ I h) fun v s1 ⟨x, H1, I1, r1, q1⟩ => ?_)
  have hN : PO X none tNoPart := po_none
  refine wpAny_Slice (thn (hN.run pins s1 σ H1 _ I1 (show tNoPart σ H1 (fun l H2 => l = none ∧ H2 = H1) from ⟨rfl, rfl⟩)) fun vl s2 ⟨l, H2, I2, pl, el, eH⟩ => thn (hN.run pins s2 σ H2 _ I2 (show tNoPart σ H2 (fun l H3 => l = none ∧ H3 = H2) from ⟨rfl, rfl⟩)) fun vu s3 ⟨u, H3, I3, pu, eu, eH3⟩ => ?_)
  subst eH3 eH el eu
  cases pl
  cases pu
  refine thn (hl.run pins s3 σ _ _ I3 q1) fun vs s4 ⟨k, H4, I4, pk, ek, q4⟩ => ?_
  subst ek
  cases pk with
  | int i tk =>
    have I5 : Inv X pins σ H4 { s4 with heap := s4.heap.push { cls := .type "slice", data := .fields #[.none, .none, .int (-1) tk] } } := I4.kept (t' := s4.toks) fun b ob q => Heap.get?_push_of_some _ q
    obtain ⟨T, id, hT, ht, hg⟩ := hr pins _ σ H4 x v tk s4.heap.objs.size Q I5 r1 (Heap.IsSliceOf.new ..) q4
    exact tail_any (ops := [v, .ref s4.heap.objs.size]) ht hT hg (by with_unfolding_all rfl)
def rBkL (K : PySem.W.Frag) : V → Hp → VK → Prop := fun x H Q => ∃ a xs, x = .ref a ∧ SqL K H a xs ∧ ∀ p, H p = none → Q (.ref p) (upd H p (.lst xs.reverse))
def rBkT (K : PySem.W.Frag) : V → Hp → VK → Prop := fun x H Q => ∃ a xs, x = .ref a ∧ SqT K H a xs ∧ NewT H xs.reverse Q
theorem bk_list : BkR X (rBkL X.K) := by
  intro pins s σ H x v tk sl Q I rx hs ⟨a, xs, ex, hx, q⟩
  subst ex
  obtain rfl : v = .ref a := rx
  obtain ⟨its, r, pl, hz⟩ := I.list hx
  refine ⟨"list", _, list_getitem_lookup, pl.isList.typeIs, wpAny_getItem_list_slice pl.isList hs .none .none (.int (-1) tk) (by decide) ?_ (by rw [List.size_toArray, ← r.length]; exact hz)⟩
  rw [PySem.W.krv_pick]
  have rr : Vals xs.reverse its.reverse := r.reverse
  refine ⟨.ref s.heap.objs.size, _, I.laid (o := .lst xs.reverse) (t' := s.toks) (fun b o e => Heap.get?_push_of_some _ e) (Nat.le_refl _) ⟨by rw [List.length_reverse]; exact hz, its.reverse, 0, rr, Heap.get?_push_size _ rfl⟩, rfl, q _ (I.hok.fresh (Nat.le_refl _))⟩
theorem bk_tup : BkR X (rBkT X.K) := by
  intro pins s σ H x v tk sl Q I rx hs ⟨a, xs, ex, hx, q⟩
  subst ex
  obtain rfl : v = .ref a := rx
  obtain ⟨its, r, pl, hz⟩ := I.tuple hx
  refine ⟨"tuple", _, PyProof.Rows.slot_tuple_getitem.lookup, pl.typeIs, tuple_back pl hs (by rw [List.size_toArray, ← r.length]; exact hz) ?_⟩
  exact new_th (tk := s.toks) I (by rw [List.length_reverse]; exact hz) r.reverse q
end
section
variable {X : Cx} {b : Bg} {W : WX} {e e1 e2 st : Expr} {t t1 t2 : VT} {tl : VO} {p2 pos : Pos}
@[simp] def gBk : D → (D → Prop) → Prop
  | .py (.list xs), Q => Q (.py (.list xs.reverse))
  | .py (.tuple xs), Q => Q (.py (.tuple xs.reverse))
  | _, _ => False
@[simp] def vBk (t : VT) (tl : VO) : VT := fun ρ Q E => t ρ (fun x => tl ρ (fun k => k = some (-1) ∧ gBk x Q) E) E
theorem ve_back (h : VX X b W e t) (h1 : VPt X b W (some st) tl) : VE X b W (.Subscript e (.Slice none none (some st) p2) pos) (vBk t tl) :=
  pe_mono (pe_back (bk_list.or bk_tup) h h1) fun σ H Q ⟨Zo, Z, ρ, Qd, Ed, v, q, l, m⟩ => ⟨Zo, Z, ρ, _, Ed, v, q, fun x H1 d x1 g1 r1 q1 => ⟨Zo, Z, ρ, _, Ed, v.ex x1 g1, q1, fun k H2 x2 g2 ⟨ek, q2⟩ => by
    refine ⟨ek, ?_⟩
    have v2 := (v.ex x1 g1).ex x2 g2
    have r2 := r1.ex ((v.ex x1 g1).keep x2) x2
    match d, q2, r2 with
    | .py (.list xs), q2, r2 =>
      obtain ⟨a, us, rfl, ha, qa⟩ := r2.list
      exact .inl ⟨a, us, rfl, SqL.of ha, fun p hp => l _ _ (.py (.list xs.reverse)) ((x1.trans x2).trans (Ex.new hp)) (Bg.new g2 hp) (Rq.lst upd_same (v2.fresh hp) (qa.reverse.up hp)) q2⟩
    | .py (.tuple xs), q2, r2 =>
      obtain ⟨a, oa, us, rfl, ha, da, na, qa⟩ := r2.tuple
      exact .inr ⟨a, us, rfl, SqT.th ha, fun p o hp ho => l _ _ (.py (.tuple xs.reverse)) ((x1.trans x2).trans (Ex.new hp)) (Bg.new g2 hp) (Rq.tup upd_same ho (v2.fresh hp) (qa.reverse.up hp)) q2⟩,
    fun c z H2 er x2 g2 r2 q2 => m c z H2 er (x1.trans x2) g2 r2 q2⟩, m⟩

/-! ### products, minus -/
@[simp] def gMul : D → D → (D → Prop) → Prop
  | .py (.int i), .py (.int j), Q => CMul i j ∧ Q (.py (.int (i * j)))
  | .py (.list xs), .py (.int k), Q => (-(2 ^ 63) ≤ k ∧ k < 2 ^ 63 ∧ xs.length * k.toNat ≤ sizeLine) ∧ Q (.py (.list (List.replicate k.toNat xs).flatten))
  | .py (.tuple xs), .py (.int k), Q => (xs ≠ [] ∧ 2 ≤ k ∧ k ≤ 1000 ∧ xs.length ≤ 1000) ∧ Q (.py (.tuple (List.replicate k.toNat xs).flatten))
  | _, _, _ => False
@[simp] def gRepL : D → D → (D → Prop) → Prop
  | .py (.list xs), .py (.int k), Q => (-(2 ^ 63) ≤ k ∧ k < 2 ^ 63 ∧ xs.length * k.toNat ≤ sizeLine) ∧ Q (.py (.list (List.replicate k.toNat xs).flatten))
  | _, _, _ => False
theorem rn_rep : OpD b (RN b) rRep gRepL := by
  intro Z H x y dx dy Q Qd gd rx ry h k
  match dx, dy, h, rx, ry with
  | .py (.list xs), .py (.int n), ⟨⟨h1, h2, h3⟩, h⟩, rx, ry =>
    obtain ⟨a, us, rfl, ha, qa⟩ := rx.list
    refine ⟨a, n, us, rfl, ry.int, ha, h1, h2, by rw [qa.length]; exact h3, fun p hp => k _ _ (.py (.list _)) (Ex.new hp) (gd.new hp) ⟨p, rfl, hp, _, upd_same, (qa.rep n.toNat).up' hp⟩ h⟩
theorem rd_mul : OpD b (RE b) (fun x y H Q => rI CMul (fun i j => .int (i * j)) x y H Q ∨ (fun x y H Q => rRep x y H Q ∨ rRepF X.K x y H Q) x y H Q) gMul := by
  intro Z H x y dx dy Q Qd gd rx ry h k
  match dx, dy, h, rx, ry with
  | .py (.int i), .py (.int j), ⟨hc, h⟩, rx, ry =>
    rw [rx.int, ry.int]
    exact .inl ⟨i, j, rfl, rfl, hc, k _ H (.py (.int (i * j))) Ex.refl gd.g (.int _) h⟩
  | .py (.list xs), .py (.int n), h, rx, ry => exact .inr (.inl (OpD.toE rn_rep Z H x y (.py (.list xs)) (.py (.int n)) Q Qd gd rx ry h k))
  | .py (.tuple xs), .py (.int n), ⟨⟨h1, h2, h3, h4⟩, h⟩, rx, ry =>
    obtain ⟨a, oa, us, rfl, ha, da, na, qa⟩ := rx.tuple
    refine .inr (.inr ⟨a, n, us, rfl, ry.int, SqT.th ha, fun e => ?_, h2, h3, by rw [qa.length]; exact h4, fun p o hp ho => k _ _ (.py (.tuple _)) (Ex.new hp) (gd.new hp) (.tup upd_same ho (gd.fresh hp) ((qa.rep n.toNat).up hp)) h⟩)
    subst e
    cases qa
    exact h1 rfl
theorem ve_mul (h1 : VX X b W e1 t1) (h2 : VX X b W e2 t2) : VE X b W (.BinOp e1 .Mult e2 pos) (vBin gMul t1 t2) := ve_op (OpR.or op_mul (OpR.or op_rep op_repF)) rd_mul h1 h2
theorem vn_mul (h1 : VX X b W e1 t1) (h2 : VX X b W e2 t2) : VN X b W (.BinOp e1 .Mult e2 pos) (vBin gRepL t1 t2) := vn_op op_rep rn_rep h1 h2
@[simp] def gNeg : D → (D → Prop) → Prop
  | .py (.int i), Q => Q (.py (.int (-i)))
  | _, _ => False
theorem ve_neg (h : VX X b W e t) : VE X b W (.UnaryOp .USub e pos) (vUn gNeg t) :=
  pe_mono (pe_un un_neg h) fun σ H Q ⟨Zo, Z, ρ, Qd, Ed, v, q, l, m⟩ => ⟨Zo, Z, ρ, _, Ed, v, q, fun x H1 d x1 g1 r1 q1 => by
    match d, q1, r1 with
    | .py (.int i), q1, r1 => exact ⟨i, r1.int, l _ H1 (.py (.int (-i))) x1 g1 (Rq.int _) q1⟩, m⟩
/-! ### dict displays -/
@[simp] def vD0 : VT := fun _ Q _ => Q (.py (.dict []))
theorem vn_dict0 : VN X b W (.Dict [] [] pos) vD0 := pe_mono pe_dnewK fun σ H Q ⟨Zo, Z, ρ, Qd, Ed, v, q, l, m⟩ p hp => l _ _ (.py (.dict [])) (Ex.new hp) (Bg.new v.g hp) ⟨p, rfl, hp, [], upd_same, .nil⟩ q
@[simp] def vD1 (k : Key) (t : VT) : VT := fun ρ Q E => t ρ (fun d => ∃ p, d = .py p ∧ Q (.py (.dict [(kD k, p)]))) E
theorem vn_dict1 {j : Nat} {x : Str} {ps : Pos} (h : VE X b W e t) : VN X b W (.Dict [some (.Constant (.str x) j ps)] [e] pos) (vD1 (.inr x) t) :=
  pe_mono (pe_disp (pps_cons pe_str h pps_nil) rfl rfl (by simp) (by show 1 ≤ 15; decide)) fun σ H Q ⟨Zo, Z, ρ, Qd, Ed, v, q, l, m⟩ p hp => by
    have v1 := v.apart hp (o := .dK [])
    have nb : ¬ b.B p := fun z => v.fresh hp (v.zo p (v.zb p z))
    refine ⟨_, _, ρ, _, Ed, v1, q, fun y H1 d x1 g1 r1 ⟨pd, ed, q1⟩ => ?_, fun c z H1 er x1 g1 r1 q1 => m c z H1 er ((Ex.new hp).trans x1) g1 ?_ q1⟩
    · subst ed
      have e1 : H1 p = some (.dK []) := x1 p _ upd_same nb
      refine ⟨e1, [(.inr x, y)], rfl, (show 1 ≤ 15 by decide), ?_⟩
      have xx : Ex b H (upd H1 p (.dK [(.inr x, y)])) := fun a o e n => by
        rw [upd_ne (ne_of_none e hp)]
        exact x1 a o (by rw [upd_ne (ne_of_none e hp)]; exact e) n
      refine l _ _ (.py (.dict [(kD (.inr x), pd)])) xx (b.loc H1 _ (fun c hc => upd_ne fun e => nb (by rw [← e]; exact hc)) (fun c P e => by rw [upd_ne (fun z => by rw [z, e1] at e; cases e)]; exact e) g1) ⟨p, rfl, hp, _, upd_same, .cons (Rq.mono (fun c z => .inl z) (fun c o e n => ?_) r1) .nil⟩ q1
      rw [upd_ne (fun e => n (.inr e))]
      exact e
    · obtain ⟨h1, h2⟩ := r1
      refine ⟨h1, h2.imp id ?_⟩
      rintro ⟨a, xs, e1, e2, e3, e4⟩
      exact ⟨a, xs, e1, e2, fun z => e3 (.inl z), e4.mono (fun c z => .inl (.inl z)) fun _ _ e _ => e⟩
end
end VL
set_option Elab.async false
set_option linter.all false
set_option maxRecDepth 100000
set_option maxHeartbeats 4000000
namespace VL
open PySem PySem.Spec PyProof.Rows L2

theorem bb_abs : bootBuiltins "abs" = some (.builtin "abs") := by decide +kernel
theorem bb_int : bootBuiltins "int" = some (.type "int") := by decide +kernel
theorem bb_str : bootBuiltins "str" = some (.type "str") := by decide +kernel
theorem bb_bool : bootBuiltins "bool" = some (.type "bool") := by decide +kernel
theorem bb_tuple : bootBuiltins "tuple" = some (.type "tuple") := by decide +kernel
theorem bb_list : bootBuiltins "list" = some (.type "list") := by decide +kernel
theorem bb_sum : bootBuiltins "sum" = some (.builtin "sum") := by decide +kernel
theorem bb_all : bootBuiltins "all" = some (.builtin "all") := by decide +kernel
theorem bb_any : bootBuiltins "any" = some (.builtin "any") := by decide +kernel
theorem bb_max : bootBuiltins "max" = some (.builtin "max") := by decide +kernel
theorem bb_min : bootBuiltins "min" = some (.builtin "min") := by decide +kernel
theorem bb_isi : bootBuiltins "isinstance" = some (.builtin "isinstance") := by decide +kernel
section
variable {X : Cx} {b : Bg} {W : WX} {e : Expr} {es : List Expr} {u : VA} {p pos : Pos} {t : VT}
theorem ve_abs (hg : Gl X "abs") (hm : X.mg "abs" = none) (ha : VXs X b W (e :: es) u) (he : starEach (e :: es) X.env = (false, eval e X.env) :: starEach es X.env := by rfl) (hpl : (backTo pos (starEach es X.env)).any (·.1) = false := by rfl) :
    VE X b W (.Call (.Name "abs" p) (e :: es) [] pos) (vCal gAbs u) := ve_callB call_abs rd_abs hg hm bb_abs ha (by decide) (by decide) he hpl
theorem ve_intC (hg : Gl X "int") (hm : X.mg "int" = none) (ha : VXs X b W (e :: es) u) (he : starEach (e :: es) X.env = (false, eval e X.env) :: starEach es X.env := by rfl) (hpl : (backTo pos (starEach es X.env)).any (·.1) = false := by rfl) :
    VE X b W (.Call (.Name "int" p) (e :: es) [] pos) (vCal gInt u) := ve_callTy (CallR.or call_int1 call_int_str) rd_int hg hm bb_int ha (by decide) (by decide) he hpl
theorem ve_strC (hg : Gl X "str") (hm : X.mg "str" = none) (ha : VXs X b W (e :: es) u) (he : starEach (e :: es) X.env = (false, eval e X.env) :: starEach es X.env := by rfl) (hpl : (backTo pos (starEach es X.env)).any (·.1) = false := by rfl) :
    VE X b W (.Call (.Name "str" p) (e :: es) [] pos) (vCal gStr u) := ve_callTy (CallR.or call_str_int SkE.call_str_str) rd_str hg hm bb_str ha (by decide) (by decide) he hpl
theorem ve_boolC (hg : Gl X "bool") (hm : X.mg "bool" = none) (ha : VXs X b W (e :: es) u) (he : starEach (e :: es) X.env = (false, eval e X.env) :: starEach es X.env := by rfl) (hpl : (backTo pos (starEach es X.env)).any (·.1) = false := by rfl) :
    VE X b W (.Call (.Name "bool" p) (e :: es) [] pos) (vCal gBool u) := ve_callTy call_bool1 rd_bool hg hm bb_bool ha (by decide) (by decide) he hpl
theorem ve_tupleC (hg : Gl X "tuple") (hm : X.mg "tuple" = none) (ha : VXs X b W (e :: es) u) (he : starEach (e :: es) X.env = (false, eval e X.env) :: starEach es X.env := by rfl) (hpl : (backTo pos (starEach es X.env)).any (·.1) = false := by rfl) :
    VE X b W (.Call (.Name "tuple" p) (e :: es) [] pos) (vCal gTuple u) := ve_callTy call_tupF rd_tuple hg hm bb_tuple ha (by decide) (by decide) he hpl
theorem vn_listC (hg : Gl X "list") (hm : X.mg "list" = none) (ha : VXs X b W (e :: es) u) (he : starEach (e :: es) X.env = (false, eval e X.env) :: starEach es X.env := by rfl) (hpl : (backTo pos (starEach es X.env)).any (·.1) = false := by rfl) :
    VN X b W (.Call (.Name "list" p) (e :: es) [] pos) (vCal gList u) := vn_callTy call_list_of rd_list hg hm bb_list ha (by decide) (by decide) he hpl
theorem ve_isi (hg : Gl X "isinstance") (hm : X.mg "isinstance" = none) (ha : VXs X b W (e :: es) u) (he : starEach (e :: es) X.env = (false, eval e X.env) :: starEach es X.env := by rfl) (hpl : (backTo pos (starEach es X.env)).any (·.1) = false := by rfl) :
    VE X b W (.Call (.Name "isinstance" p) (e :: es) [] pos) (vCal gIsi u) := ve_callB call_isi rd_isi hg hm bb_isi ha (by decide) (by decide) he hpl
theorem ve_tyInt (hg : Gl X "int") (hm : X.mg "int" = none) : VE X b W (.Name "int" pos) (vC (.raw (.ty "int"))) := ve_ty hg hm bb_int
theorem ve_tyBool (hg : Gl X "bool") (hm : X.mg "bool" = none) : VE X b W (.Name "bool" pos) (vC (.raw (.ty "bool"))) := ve_ty hg hm bb_bool
theorem ve_tyStr (hg : Gl X "str") (hm : X.mg "str" = none) : VE X b W (.Name "str" pos) (vC (.raw (.ty "str"))) := ve_ty hg hm bb_str
theorem ve_tyTuple (hg : Gl X "tuple") (hm : X.mg "tuple" = none) : VE X b W (.Name "tuple" pos) (vC (.raw (.ty "tuple"))) := ve_ty hg hm bb_tuple
theorem ve_tyList (hg : Gl X "list") (hm : X.mg "list" = none) : VE X b W (.Name "list" pos) (vC (.raw (.ty "list"))) := ve_ty hg hm bb_list
theorem ve_sum (hc : X.calm = true) (hg : Gl X "sum") (hm : X.mg "sum" = none) (ha : VXs X b W (e :: es) u) (he : starEach (e :: es) X.env = (false, eval e X.env) :: starEach es X.env := by rfl) (hpl : (backTo pos (starEach es X.env)).any (·.1) = false := by rfl) :
    VE X b W (.Call (.Name "sum" p) (e :: es) [] pos) (vCal gSum u) := ve_callB (cr_sum hc) rd_sum hg hm bb_sum ha (by decide) (by decide) he hpl
theorem ve_all (hc : X.calm = true) (hg : Gl X "all") (hm : X.mg "all" = none) (ha : VXs X b W (e :: es) u) (he : starEach (e :: es) X.env = (false, eval e X.env) :: starEach es X.env := by rfl) (hpl : (backTo pos (starEach es X.env)).any (·.1) = false := by rfl) :
    VE X b W (.Call (.Name "all" p) (e :: es) [] pos) (vCal gAll u) := ve_callB (cr_all hc) rd_all hg hm bb_all ha (by decide) (by decide) he hpl
theorem ve_any (hc : X.calm = true) (hg : Gl X "any") (hm : X.mg "any" = none) (ha : VXs X b W (e :: es) u) (he : starEach (e :: es) X.env = (false, eval e X.env) :: starEach es X.env := by rfl) (hpl : (backTo pos (starEach es X.env)).any (·.1) = false := by rfl) :
    VE X b W (.Call (.Name "any" p) (e :: es) [] pos) (vCal gAny u) := ve_callB (cr_any hc) rd_any hg hm bb_any ha (by decide) (by decide) he hpl
theorem ve_max (hc : X.calm = true) (hg : Gl X "max") (hm : X.mg "max" = none) (ha : VXs X b W (e :: es) u) (he : starEach (e :: es) X.env = (false, eval e X.env) :: starEach es X.env := by rfl) (hpl : (backTo pos (starEach es X.env)).any (·.1) = false := by rfl) :
    VE X b W (.Call (.Name "max" p) (e :: es) [] pos) (vCal gMax u) := ve_callB (CallR.or (call_max2 hc) (cr_max hc)) rd_max hg hm bb_max ha (by decide) (by decide) he hpl
theorem ve_min (hc : X.calm = true) (hg : Gl X "min") (hm : X.mg "min" = none) (ha : VXs X b W (e :: es) u) (he : starEach (e :: es) X.env = (false, eval e X.env) :: starEach es X.env := by rfl) (hpl : (backTo pos (starEach es X.env)).any (·.1) = false := by rfl) :
    VE X b W (.Call (.Name "min" p) (e :: es) [] pos) (vCal gMin u) := ve_callB (CallR.or (call_min2 hc) (cr_min hc)) rd_min hg hm bb_min ha (by decide) (by decide) he hpl
/-- a constant of the module that is an int -/
theorem ve_gint {x : Str} {i : Int} (hg : Gl X x) (hm : ∃ t, X.mg x = some (.int i t)) (hd : (x == ("__debug__" : Str)) = false := by decide) : VE X b W (.Name x pos) (vC (.py (.int i))) := by
  obtain ⟨t, h⟩ := hm
  exact ve_glob (v := .int i) hg h ⟨t, rfl⟩ (fun _ _ => .int i) hd
end
/-! ### a def that is called: all that its call wants -/
structure Cal (P : Program) (w : World) (K : PySem.W.Frag) (mg : Str → Option Value) (base : Heap) (b : Bg) (k : Nat) (x : Str) (ps : List Str) (S : SV) where
  f : Addr
  fd : FuncData
  F : FnOk P w K mg base (L2.CX P w) k f fd ps (spV b S)
  g : mg x = some (.ref f)
  kp : PySem.W.keepIn K (.ref f) = true
  bd : Binds K fd ps []
section
variable {X : Cx} {b : Bg} {W : WX} {k j : Nat} {x : Str} {ps : List Str} {S : SV} {e : Expr} {es : List Expr} {u : VA} {p pos : Pos}
theorem ve_cal (c : Cal X.prog X.w X.K X.mg X.base b k x ps S) (hr : Room j X.A) (tk : Takes X W) (hg : Gl X x) (ha : VAs X b W (e :: es) u) (hk : k ≤ j := by decide) (hdb : (x == ("__debug__" : Str)) = false := by decide)
    (he : starEach (e :: es) X.env = (false, eval e X.env) :: starEach es X.env := by rfl) (hpl : (backTo pos (starEach es X.env)).any (·.1) = false := by rfl) : VE X b W (.Call (.Name x p) (e :: es) [] pos) (vCall S u) :=
  ve_call c.F (hr.mono hk) tk hg c.g c.kp c.bd ha hdb he hpl
theorem ve_cal0 (c : Cal X.prog X.w X.K X.mg X.base b k x ps S) (hr : Room j X.A) (tk : Takes X W) (hg : Gl X x) (hk : k ≤ j := by decide) (hdb : (x == ("__debug__" : Str)) = false := by decide) : VE X b W (.Call (.Name x p) [] [] pos) (vCall S vNil) :=
  ve_call0 c.F (hr.mono hk) tk hg c.g c.kp c.bd hdb
end
section
variable {X : Cx} {b : Bg} {W : WX} {tg iter elt c : Expr} {ifs : List Expr} {scope : Scope} {own : List (Str × Nat)} {pos spos py : Pos} {ti : VIt} {js : List Nat} {g : VTg} {tt : VB} {te : VT} {i : Nat} {y : Str} {t : VT}
theorem LE.new : ∀ σ H Q, LE b W (RE b) t σ H Q → LE b W (RN b) t σ H Q := fun σ H Q ⟨Zo, Z, ρ, Qd, Ed, v, q, l, m⟩ => ⟨Zo, Z, ρ, Qd, Ed, v, q, fun u H' d x g ⟨a, e, n, o⟩ => by
  subst e
  exact l _ H' d x g (o.rp (fun _ z => .inl z) (v.fresh n)), m⟩
/-- name = [..] on one line, shared from then on -/
theorem vs_setLcE (hc : X.calm = true) (hN : X.N.Nodup) (hy : X.N[i]? = some y) (hyl : X.env.scope.names.lookup y = some .local) (hsw : swapsWith (.ListComp elt [⟨tg, iter, ifs, 0⟩] scope pos) (some (.Name y py)) spos.line X.env = pure true)
    (hi : VIb X b W tg iter ti) (ok : BlkOk X.N X.env.scope scope own) (hjs : ∀ j ∈ js, j ∈ own.map (·.2))
    (hg : ∀ (s : Shared) (H : Hp) (C : Addr) (cl : List (Str × Addr)) (fp : List Addr), VG (X.blk s H scope (compEnvC scope cl C X.env) fp) b tg js g) (ht : ∀ (s : Shared) (H : Hp) (C : Addr) (cl : List (Str × Addr)) (fp : List Addr), VTs (X.blk s H scope (compEnvC scope cl C X.env) fp) b ifs tt)
    (he : ∀ (s : Shared) (H : Hp) (C : Addr) (cl : List (Str × Addr)) (fp : List Addr), VE (X.blk s H scope (compEnvC scope cl C X.env) fp) b noW elt te) (hs : ∀ x, foldedSetIterable iter X.env x = pure x := by intro _; rfl) :
    VSt X b W (.Assign [.Name y py] (.ListComp elt [⟨tg, iter, ifs, 0⟩] scope pos) spos) (sSet i (vLc (own.map (·.2)) ti g tt te)) :=
  vs_set (ps_setLc hc hN hy hyl hsw hi ok hg ht he hs) fun σ H Q q => lc_sound hjs σ H Q (LE.new σ H Q q)
end
end VL
set_option Elab.async false
set_option linter.all false
set_option maxRecDepth 100000
set_option maxHeartbeats 4000000
namespace VL
open PySem PySem.Spec PyProof.Rows L2

@[simp] theorem szl : sizeLine = 16777216 := sizeLine_eq
@[simp] def asB : D → (Bool → Prop) → Prop
  | .py (.bool k), Q => Q k
  | _, _ => False
@[simp] def asI : D → (Int → Prop) → Prop
  | .py (.int k), Q => Q k
  | _, _ => False
@[simp] def asP : D → (PyData → Prop) → Prop
  | .py k, Q => Q k
  | _, _ => False
@[simp 2000] theorem ex_bool (d : D) (Q : Bool → Prop) : (∃ k, d = .py (.bool k) ∧ Q k) ↔ asB d Q := by
  refine ⟨fun ⟨k, e, q⟩ => by rw [e]; exact q, fun h => ?_⟩
  match d, h with
  | .py (.bool k), h => exact ⟨k, rfl, h⟩
@[simp 2000] theorem ex_int (d : D) (Q : Int → Prop) : (∃ k, d = .py (.int k) ∧ Q k) ↔ asI d Q := by
  refine ⟨fun ⟨k, e, q⟩ => by rw [e]; exact q, fun h => ?_⟩
  match d, h with
  | .py (.int k), h => exact ⟨k, rfl, h⟩
@[simp 2000] theorem ex_py (d : D) (Q : PyData → Prop) : (∃ k, d = .py k ∧ Q k) ↔ asP d Q := by
  refine ⟨fun ⟨k, e, q⟩ => by rw [e]; exact q, fun h => ?_⟩
  match d, h with
  | .py k, h => exact ⟨k, rfl, h⟩
@[simp 2000] theorem ex_pys (ds : List D) (Q : List PyData → Prop) : (∃ ps, pys ds = some ps ∧ Q ps) ↔ asO (pys ds) Q := by
  refine ⟨fun ⟨k, e, q⟩ => by rw [e]; exact q, asO_ex⟩
/-! ### comprehensions, loops: how their readings are met -/
/-- one turn of a comprehension -/
def lcStep (g : VTg) (tt : VB) (te : VT) (d : D) (ρ : VEnv) (k : Option PyData → Prop) : Prop :=
  g d ρ fun ρ1 => tt ρ1 (fun b => if b = true then te ρ1 (fun y => ∃ p, y = .py p ∧ k (some p)) noE else k none) noE
section
variable {g : VTg} {tt : VB} {te : VT} {ρ : VEnv} {Q : D → Prop}
theorem lcGo_cons {d : D} {ds : List D} {acc : List PyData} (h : lcStep g tt te d ρ fun o => match o with
    | some p => acc.length < sizeLine ∧ lcGo g tt te Q ds (acc ++ [p]) ρ
    | none => lcGo g tt te Q ds acc ρ) : lcGo g tt te Q (d :: ds) acc ρ := h
/-- every turn gives just f -/
theorem lc_fun (f : PyData → Option PyData) : ∀ {xs acc : List PyData}, (∀ x ∈ xs, ∀ k, k (f x) → lcStep g tt te (.py x) ρ k) → acc.length + xs.length < 16777216 → Q (.py (.list (acc ++ xs.filterMap f))) → lcGo g tt te Q (xs.map D.py) acc ρ
  | [], acc, _, _, q => by simpa using q
  | x :: xs, acc, h, hl, q => by
    refine lcGo_cons (h x List.mem_cons_self _ ?_)
    have hr : ∀ y ∈ xs, ∀ k, k (f y) → lcStep g tt te (.py y) ρ k := fun y hy => h y (List.mem_cons_of_mem _ hy)
    rw [List.length_cons] at hl
    rw [List.filterMap_cons] at q
    cases e : f x with
    | none => rw [e] at q; exact lc_fun f hr (by omega) q
    | some p =>
      rw [e] at q
      refine ⟨by rw [szl]; omega, lc_fun f hr (by rw [List.length_append, List.length_singleton]; omega) ?_⟩
      rw [List.append_assoc]
      exact q
/-- every turn keeps an item, with R -/
theorem lc_rel (R : PyData → PyData → Prop) : ∀ {xs acc : List PyData}, (∀ x ∈ xs, ∀ k, (∀ p, R x p → k (some p)) → lcStep g tt te (.py x) ρ k) → acc.length + xs.length < 16777216 →
    (∀ ps : List PyData, ps.length = xs.length → (∀ (i : Nat) (x p : PyData), xs[i]? = some x → ps[i]? = some p → R x p) → Q (.py (.list (acc ++ ps)))) → lcGo g tt te Q (xs.map D.py) acc ρ
  | [], acc, _, _, q => by
    have := q [] rfl (fun i x p e => by simp at e)
    simpa using this
  | x :: xs, acc, h, hl, q => by
    refine lcGo_cons (h x List.mem_cons_self _ fun p hp => ?_)
    rw [List.length_cons] at hl
    refine ⟨by rw [szl]; omega, lc_rel R (fun y hy => h y (List.mem_cons_of_mem _ hy)) (by rw [List.length_append, List.length_singleton]; omega) fun ps e r => ?_⟩
    rw [List.append_assoc]
    refine q (p :: ps) (by simp [e]) fun i y z e1 e2 => ?_
    cases i with
    | zero =>
      simp at e1 e2
      subst e1 e2
      exact hp
    | succ i => exact r i y z (by simpa using e1) (by simpa using e2)
/-- .. whatever its turn -/
theorem lc_mem (R : PyData → Prop) {xs acc : List PyData} (h : ∀ x ∈ xs, ∀ k, (∀ p, R p → k (some p)) → lcStep g tt te (.py x) ρ k) (hl : acc.length + xs.length < 16777216)
    (q : ∀ ps : List PyData, ps.length = xs.length → (∀ p ∈ ps, R p) → Q (.py (.list (acc ++ ps)))) : lcGo g tt te Q (xs.map D.py) acc ρ :=
  lc_rel (fun _ p => R p) h hl fun ps e r => q ps e fun p hp => by
    obtain ⟨i, hi⟩ := List.getElem?_of_mem hp
    have hlt : i < xs.length := by rw [← e]; exact (List.getElem?_eq_some_iff.mp hi).1
    exact r i xs[i] p (List.getElem?_eq_getElem hlt) hi
end
section
variable {g : VTg} {tb : VS} {De : VEnds}
/-- a loop by its turns: Iv ahead of turn i -/
theorem for_inv (Iv : Nat → VEnv → Prop) {xs : List PyData} (h : ∀ i x ρ, xs[i]? = some x → Iv i ρ → ∀ nx ct : VEnv → Prop, (∀ ρ', Iv (i + 1) ρ' → nx ρ' ∧ ct ρ') → g (.py x) ρ fun ρ1 => tb ρ1 ⟨nx, De.rt, De.nx, ct, De.ex⟩) (hd : ∀ ρ, Iv xs.length ρ → De.nx ρ) :
    ∀ {ρ : VEnv}, Iv 0 ρ → forGo g tb (xs.map D.py) ρ De := by
  have go : ∀ (n : Nat) (ρ : VEnv), Iv n ρ → n ≤ xs.length → forGo g tb ((xs.drop n).map D.py) ρ De := by
    intro n
    induction hk : xs.length - n generalizing n with
    | zero =>
      intro ρ iv hn
      have e : n = xs.length := by omega
      subst e
      rw [List.drop_length]
      exact hd ρ iv
    | succ m ih =>
      intro ρ iv hn
      have hlt : n < xs.length := by omega
      rw [List.drop_eq_getElem_cons hlt, List.map_cons]
      exact h n xs[n] ρ (List.getElem?_eq_getElem hlt) iv _ _ fun ρ' iv' => ⟨ih (n + 1) (by omega) ρ' iv' hlt, ih (n + 1) (by omega) ρ' iv' hlt⟩
  intro ρ iv
  have := go 0 ρ iv (Nat.zero_le _)
  rwa [List.drop_zero] at this
end
/-! ### plain data -/
@[simp] theorem eqv_lnil (xs : List PyData) : (PyData.list xs).eqv (.list []) = xs.isEmpty := by cases xs <;> rfl
@[simp] theorem eqv_tnil (xs : List PyData) : (PyData.tuple xs).eqv (.tuple []) = xs.isEmpty := by cases xs <;> rfl
@[simp] theorem eqv_lt (xs ys : List PyData) : (PyData.list xs).eqv (.tuple ys) = false := rfl
@[simp] theorem eqv_tl (xs ys : List PyData) : (PyData.tuple xs).eqv (.list ys) = false := rfl
@[simp] theorem eqv_ii (i j : Int) : (PyData.int i).eqv (.int j) = (i == j) := rfl
@[simp] theorem eqv_ss (i j : Str) : (PyData.str i).eqv (.str j) = (i == j) := rfl
@[simp] theorem plain_none : PyData.none.plain = true := rfl
@[simp] theorem plain_bool (k : Bool) : (PyData.bool k).plain = true := rfl
@[simp] theorem plain_int (i : Int) : (PyData.int i).plain = true := rfl
@[simp] theorem plain_str (i : Str) : (PyData.str i).plain = true := rfl
@[simp] theorem plain_list (xs : List PyData) : (PyData.list xs).plain = PyData.plainAll xs := by simp only [PyData.plain]
@[simp] theorem plain_tuple (xs : List PyData) : (PyData.tuple xs).plain = PyData.plainAll xs := by simp only [PyData.plain]
@[simp] theorem plainAll_nil : PyData.plainAll [] = true := rfl
@[simp] theorem plainAll_cons (x : PyData) (xs : List PyData) : PyData.plainAll (x :: xs) = (x.plain && PyData.plainAll xs) := by simp only [PyData.plainAll]
@[simp] theorem plainAll_ints (xs : List Int) : PyData.plainAll (xs.map PyData.int) = true := plain_ints xs
@[simp] theorem depth_nil : (PyData.list []).depth = 1 := rfl
@[simp] theorem depth_tnil : (PyData.tuple []).depth = 1 := rfl
@[simp] theorem depth_int (i : Int) : (PyData.int i).depth = 0 := rfl
@[simp] theorem depth_str (i : Str) : (PyData.str i).depth = 0 := rfl
@[simp] theorem depth_none : PyData.none.depth = 0 := rfl
@[simp] theorem depth_bool (k : Bool) : (PyData.bool k).depth = 0 := rfl
@[simp] theorem depth_list (xs : List PyData) : (PyData.list xs).depth = PyData.depthAll xs + 1 := by simp only [PyData.depth]
@[simp] theorem depth_tuple (xs : List PyData) : (PyData.tuple xs).depth = PyData.depthAll xs + 1 := by simp only [PyData.depth]
@[simp] theorem depthAll_nil : PyData.depthAll [] = 0 := rfl
@[simp] theorem depthAll_cons (x : PyData) (xs : List PyData) : PyData.depthAll (x :: xs) = max x.depth (PyData.depthAll xs) := by simp only [PyData.depthAll]
end VL
namespace VL
open PySem PySem.Spec PyProof.Rows L2
@[simp] theorem cpow_iff (i j : Int) : CPow i j ↔ (0 ≤ j ∧ j ≤ 1000000 ∧ i.natAbs < 2 ^ 64) := Iff.rfl
@[simp] theorem cdivn_iff (i j : Int) : CDivN i j ↔ (j ≠ 0 ∧ j.natAbs < 1073741824) := Iff.rfl
@[simp] theorem cmul_iff (i j : Int) : CMul i j ↔ ((-(2 ^ 64) < i ∧ i < 2 ^ 64) ∨ (-(2 ^ 64) < j ∧ j < 2 ^ 64)) := Iff.rfl
end VL
namespace VL
open PySem PySem.Spec PyProof.Rows L2
theorem atI_ok {α : Type} {xs : List α} {i : Int} (h0 : 0 ≤ i) (h1 : i < xs.length) : ∃ d, atI xs i = some d ∧ d ∈ xs := by
  obtain ⟨j, rfl⟩ := Int.eq_ofNat_of_zero_le h0
  have hj : j < xs.length := by omega
  exact ⟨xs[j], atI_nat (List.getElem?_eq_getElem hj), List.getElem_mem hj⟩
theorem mem_rangeP {lo : Int} {n : Nat} {d : PyData} (h : d ∈ rangeP lo n) : ∃ k : Nat, k < n ∧ d = .int (lo + k) := by
  unfold rangeP at h
  obtain ⟨k, hk, rfl⟩ := List.mem_map.mp h
  exact ⟨k, List.mem_range.mp hk, rfl⟩
@[simp] theorem rangeP_len (lo : Int) (n : Nat) : (rangeP lo n).length = n := by simp [rangeP]
/-- ints, all with P -/
theorem ints_of {P : Int → Prop} : ∀ {ps : List PyData}, (∀ p ∈ ps, ∃ g, p = PyData.int g ∧ P g) → ∃ gs : List Int, ps = gs.map PyData.int ∧ ∀ g ∈ gs, P g
  | [], _ => ⟨[], rfl, fun _ h => nomatch h⟩
  | p :: ps, h => by
    obtain ⟨g, rfl, hg⟩ := h p List.mem_cons_self
    obtain ⟨gs, rfl, hs⟩ := ints_of fun q hq => h q (List.mem_cons_of_mem _ hq)
    exact ⟨g :: gs, rfl, fun x hx => (List.mem_cons.mp hx).elim (fun e => by rw [e]; exact hg) (hs x)⟩
end VL
set_option Elab.async false
set_option linter.all false
set_option maxRecDepth 100000
set_option maxHeartbeats 4000000
namespace VL
open PySem PySem.Spec PyProof.Rows L2

/-! ### the law: the first statement makes the bag, the rest is read over values -/
theorem pss_ex {X : Cx} {sts : List Stmt} {α : Type} {t : α → TS} (h : ∀ x, PSs X sts (t x)) : PSs X sts (fun D σ H => ∃ x, t x D σ H) := ⟨fun pins s σ H D I ⟨x, q⟩ => (h x).run pins s σ H D I q⟩
def spLaw (K : PySem.W.Frag) : Sp := fun vs H Q _ => ∃ (a : Addr) (ns : List Int), vs = [.ref a] ∧ SqL K H a (ns.map V.int) ∧ ns.length ≤ 63 ∧ ∀ H', Q (.bl true) H'
/-- the names' values behind the first statement: the bag in slot i -/
def envBag (n i : Nat) (r : Addr) : VEnv := (List.replicate n Slot.un).set i (.shr (.raw (.ref r)))
abbrev isTrue' : D → Prop := fun d => d = .py (.bool true)
theorem envBag_at {n i j : Nat} {r : Addr} {s : Slot} (h : (envBag n i r)[j]? = some s) : s = .un ∨ (j = i ∧ s = .shr (.raw (.ref r))) := by
  unfold envBag at h
  by_cases e : i = j
  · subst e
    by_cases hn : i < n
    · rw [List.getElem?_set_self (by simpa using hn)] at h; cases h; exact .inr ⟨rfl, rfl⟩
    · rw [List.getElem?_eq_none (by simp; omega)] at h; cases h
  · rw [List.getElem?_set_ne e, List.getElem?_replicate] at h
    split at h
    · cases h; exact .inl rfl
    · cases h
theorem law_rest {cls : Str → Addr} {r l1 l2 : Addr} {gs ds : List Int} {n : Int} {H : Hp} {N : List Str} {i : Nat} {a : Addr} {t : VS} {Q : VK} {E : XK} (hb : bagAt r l1 l2 gs ds n H) (h0 : 0 < N.length) (hi : i < N.length)
    (law : t (envBag N.length i r) (fin isTrue' noE)) (q : ∀ H', Q (.bl true) H') : LS (bagB cls r l1 l2) (WF E) t { nx := fun _ H' => Q .non H', rt := Q } ((L2.start N [.ref a]).set i (some (.ref r))) H := by
  have hG : (bagB cls r l1 l2).G H := ⟨gs, ds, n, hb⟩
  have hl : (L2.start N [V.ref a]).length = N.length := by
    unfold L2.start
    rw [List.length_append, List.length_map, List.length_replicate, List.length_singleton]
    omega
  refine ⟨H, fun _ => False, (bagB cls r l1 l2).B, (bagB cls r l1 l2).B, _, _, ⟨⟨hG, fun _ z => z, fun _ z => z, fun a z => (bagB cls r l1 l2).dom H a hG z, fun _ z => .inl z, fun j d e => ?_, fun j k d e c h1 _ _ _ => ?_, fun j d e => ?_, ?_⟩, fun _ _ e _ _ => e, fun j d c h1 _ => ?_⟩, law, ⟨fun _ _ _ _ _ h => (by cases h), fun v H' d _ _ rp h => ?_, fun _ _ _ _ _ h => h.elim, fun _ _ _ _ _ h => h.elim, fun _ _ _ _ _ _ _ _ _ h => h.elim⟩⟩
  · rcases envBag_at e with h | ⟨_, h⟩ <;> cases h
  · rcases envBag_at h1 with h | ⟨_, h⟩ <;> cases h
  · rcases envBag_at e with h | ⟨ej, h⟩
    · cases h
    · cases h
      subst ej
      exact ⟨.ref r, List.getElem?_set_self (by rw [hl]; exact hi), rfl⟩
  · unfold envBag
    rw [List.length_set, List.length_replicate, List.length_set, hl]
  · rcases envBag_at h1 with h | ⟨_, h⟩ <;> cases h
  · have h' : d = .py (.bool true) := h
    subst h'
    have rp' : Rq (bagB cls r l1 l2).B H' v (.bool true) := rp
    cases rp'
    exact q H'
section
variable {P : Program} {w : World} {K : PySem.W.Frag} {mg : Str → Option Value} {base : Heap} {k k0 : Nat} {st : Stmt} {f fo : Addr} {fd fdo : FuncData} {N : List Str}
theorem lawV {cls : Str → Addr} {i : Nat} {t : Addr → VS} {p1 p2 p3 p4 p5 : Pos} {rest : List Stmt} {nm : Str} (F : Fun K nm nm st f fd) (Sc : FnScope N ["_law_script"] (defScope st))
    (hst : defBody st = .Assign [.Name "_law_bag" p1] (.Call (.Name "_law_opened" p2) [.Name "_law_script" p3] [] p4) p5 :: rest)
    (FO : FnOk P w K mg base (L2.CX P w) k0 fo fdo ["_law_script"] (spOpened K)) (gO : mg "_law_opened" = some (.ref fo)) (kO : PySem.W.keepIn K (.ref fo) = true) (bO : Binds K fdo ["_law_script"] []) (hk : k0 ≤ k)
    (hi : N[i]? = some ("_law_bag" : Str)) (h0 : N[0]? = some ("_law_script" : Str)) (hloc : Loc (defScope st) ("_law_bag" : Str)) (hloc0 : (defScope st).names.lookup ("_law_script" : Str) = some .local) (hgl : (defScope st).names.lookup ("_law_opened" : Str) = some .globalImplicit)
    (hbody : ∀ (r l1 l2 : Addr) (cdv : Value) (A : Around) (outer : List Env) (s : Shared) (H : Hp) (E : XK), Room k (A.deeper (envOfC nm (defScope st) s.heap.objs.size f cdv)) → (A.deeper (envOfC nm (defScope st) s.heap.objs.size f cdv)).guards = some [] →
      Takes (cxOf (L2.CX P w) P w K mg base N nm (defScope st) f cdv A outer s H E) (WF E) → VSs (cxOf (L2.CX P w) P w K mg base N nm (defScope st) f cdv A outer s H E) (bagB cls r l1 l2) (WF E) rest (t r))
    (law : ∀ r, t r (envBag N.length i r) (fin isTrue' noE)) : FnG P w K mg base (k + 1) f fd ["_law_script"] (spLaw K) := by
  refine fnG F Sc (fun vs H Q E ⟨a, ns, e, _⟩ => by rw [e]; rfl) fun cdv A outer s H vs Q E hr hg ⟨a, ns, ev, hS, hl, q⟩ => ?_
  subst ev
  rw [hst]
  have tk : Takes (cxOf (L2.CX P w) P w K mg base N nm (defScope st) f cdv A outer s H E) (WF E) := takes_of rfl rfl rfl rfl
  have hN0 : 0 < N.length := (List.getElem?_eq_some_iff.mp h0).1
  have hNi : i < N.length := (List.getElem?_eq_some_iff.mp hi).1
  refine ⟨_, pss_cons (ps_set (X := cxOf (L2.CX P w) P w K mg base N nm (defScope st) f cdv A outer s H E) (i := i) Sc.nd hi hloc (pe_callS FO (hr.mono hk) ?_ gO kO bO (fun σ => passAt tk σ) (pa_cons (pe_var h0 (.inl hloc0)) pa_nil)) (by rfl) (.inl rfl))
    (pss_ex fun r => pss_ex fun l1 => pss_ex fun l2 => hbody r l1 l2 cdv A outer s H E hr hg tk), ?_⟩
  · exact hgl
  · refine ⟨.ref a, ?_, a, ns, rfl, hS, hl, fun r l1 l2 gs ds n H' _ _ _ _ bag => ⟨r, l1, l2, law_rest bag hN0 hNi (law r) q⟩⟩
    unfold L2.start
    rfl
end
end VL
set_option Elab.async false
set_option linter.all false
set_option maxRecDepth 100000
set_option maxHeartbeats 4000000
namespace VL
open PySem PySem.Spec PyProof.Rows L2 HT
/-! ### slices as take and drop -/
theorem cutL_len {α : Type} (xs : List α) (lo hi : Option Int) : (cutL xs lo hi).length ≤ xs.length := by
  unfold cutL
  rw [List.length_take, List.length_drop]
  omega
theorem cutL_mem {α : Type} {xs : List α} {lo hi : Option Int} {y : α} (h : y ∈ cutL xs lo hi) : y ∈ xs := List.mem_of_mem_drop (List.mem_of_mem_take h)
theorem cutL_take {α : Type} (xs : List α) {x : Int} (h : 0 ≤ x) : cutL xs none (some x) = xs.take x.toNat := by
  simp only [cutL, HT.sIx]
  rw [if_neg (by omega), List.drop_zero, Nat.sub_zero]
  by_cases c : x.toNat ≤ xs.length
  · rw [Nat.min_eq_left c]
  · rw [Nat.min_eq_right (by omega), List.take_length, List.take_of_length_le (by omega)]
theorem cutL_drop {α : Type} (xs : List α) {x : Int} (h : 0 ≤ x) : cutL xs (some x) none = xs.drop x.toNat := by
  simp only [cutL, HT.sIx]
  rw [if_neg (by omega)]
  by_cases c : x.toNat ≤ xs.length
  · rw [Nat.min_eq_left c, List.take_of_length_le (by rw [List.length_drop]; omega)]
  · rw [Nat.min_eq_right (by omega), List.drop_length, List.take_nil, List.drop_of_length_le (by omega)]
theorem cutL_but {α : Type} (xs : List α) : cutL xs none (some (-1)) = xs.dropLast := by
  simp only [cutL, HT.sIx]
  rw [if_pos (by omega), List.drop_zero, Nat.sub_zero, List.dropLast_eq_take]
  congr 1
  omega
theorem atI_neg1 {α : Type} {xs : List α} (h : xs ≠ []) : ∃ d, atI xs (-1) = some d ∧ d ∈ xs := by
  have := List.length_pos_iff.mpr h
  refine ⟨xs[xs.length - 1], ?_, List.getElem_mem _⟩
  have e : ixN xs.length (-1) = some (xs.length - 1) := by
    unfold ixN
    rw [if_neg (by decide), if_pos (by omega)]
    exact congrArg some (by omega)
  unfold atI
  rw [e]
  exact List.getElem?_eq_getElem (by omega)
end VL
set_option Elab.async false
set_option linter.all false
set_option maxRecDepth 100000
set_option maxHeartbeats 4000000
namespace VL
open PySem PySem.Spec PyProof.Rows L2 HT
/-! ### the facts of a def, for the join -/
structure DefK (K : PySem.W.Frag) (x : Str) (st : Stmt) : Prop where
  ex : ∃ (f : Addr) (oc kV doc pm cdv ct : Value) (od an : Option Addr) (osl : Array (Option Value)), PySem.W.nsIn K mainGlobals x = some (some (.ref f)) ∧ K.lookup f = some ⟨oc, od, .func (PySem.W.fnOf x x (defArgs st) (defBody st) (defScope st) .none kV doc pm an cdv ct), osl⟩ ∧ PySem.W.codeIn K cdv x = true ∧ PySem.W.keepIn K (.ref f) = true
theorem defK {K : PySem.W.Frag} {x : Str} {st : Stmt} {f : Addr} {oc kV doc pm cdv ct : Value} {od an : Option Addr} {osl : Array (Option Value)} (a : PySem.W.nsIn K mainGlobals x = some (some (.ref f)))
    (l : K.lookup f = some ⟨oc, od, .func (PySem.W.fnOf x x (defArgs st) (defBody st) (defScope st) .none kV doc pm an cdv ct), osl⟩) (c : PySem.W.codeIn K cdv x = true) (k : PySem.W.keepIn K (.ref f) = true) : DefK K x st := ⟨f, oc, kV, doc, pm, cdv, ct, od, an, osl, a, l, c, k⟩
theorem DefK.use {K : PySem.W.Frag} {x : Str} {st : Stmt} {h : Heap} {mg : Str → Option Value} (d : DefK K x st) (X : K.In h) (G : h.Ns mainGlobals mg) : ∃ (f : Addr) (fd : FuncData), Fun K x x st f fd ∧ mg x = some (.ref f) ∧ PySem.W.keepIn K (.ref f) = true ∧ fd.defaults = .none := by
  obtain ⟨f, oc, kV, doc, pm, cdv, ct, od, an, osl, a, l, c, k⟩ := d.ex
  exact ⟨f, _, fun_mk l c k, PySem.W.mg_of X G a, k, rfl⟩
end VL
set_option Elab.async false
set_option linter.all false
set_option maxRecDepth 100000
set_option maxHeartbeats 4000000
namespace VL
open PySem PySem.Spec PyProof.Rows L2 HT
/-! ### an owned list is changed by a method -/
def MutD (b : Bg) (r : V → List V → Hp → VK → Prop) (g : List PyData → List D → (D → List PyData → Prop) → Prop) : Prop :=
  ∀ (Z : Addr → Prop) (H : Hp) (a : Addr) (xs : List V) (vs : List V) (p : List PyData) (ds : List D) (Q : VK) (Qd : D → List PyData → Prop), H a = some (.lst xs) → Rqs Z H xs p → Rps b Z H vs ds → g p ds Qd →
    (∀ v ys q dv, Rqs Z H ys q → Rp b Z H v dv → Qd dv q → Q v (upd H a (.lst ys))) → r (.ref a) vs H Q
@[simp] def sMut (i : Nat) (g : List PyData → List D → (D → List PyData → Prop) → Prop) (ta : VA) : VS := fun ρ De => ∃ p, ρ[i]? = some (.own (.py (.list p))) ∧ ta ρ (fun ds => g p ds fun _ q => De.nx (ρ.set i (.own (.py (.list q))))) (De.ex ρ)
section
variable {X : Cx} {b : Bg} {W : WX} {o e : Expr} {es : List Expr} {ta : VA} {i : Nat} {name : Str} {id : String} {apos cpos pos : Pos} {r : V → List V → Hp → VK → Prop} {g : List PyData → List D → (D → List PyData → Prop) → Prop}
theorem vs_mut (slot : PySem.Slot "list" name id) (hty : typeOf (.builtin id) = pure (.type "method_descriptor")) (hm : MtR X id r) (hd : MutD b r g) (ho : PE X o (tVar i)) (ha : VAs X b W (e :: es) ta)
    (hbase : attributeBase o name X.env (eval o X.env) = eval o X.env := by rfl)
    (hfew : ((backTo cpos (starEach (e :: es) X.env)).all (fun x => !x.1) && (backToKw cpos (keywordEach [] X.env)).all (fun x => x.1.isSome)
      && decide ((e :: es).length + ([] : List Keyword).length + (if ([] : List Keyword).isEmpty then 0 else 1) < 30)) = true := by rfl)
    (hline : (apos.endLine == cpos.line) = true := by rfl) (hs : starEach (e :: es) X.env = (false, eval e X.env) :: starEach es X.env := by rfl) (hplain : (backTo cpos (starEach es X.env)).any (·.1) = false := by rfl)
    (hsw : swapsWith (.Call (.Attribute o name apos) (e :: es) [] cpos) none pos.line X.env = pure false := by rfl) :
    VSt X b W (.Expr (.Call (.Attribute o name apos) (e :: es) [] cpos) pos) (sMut i g ta) :=
  ps_mono (ps_expr (pe_bm PySem.F.plainAttrs_list slot hty hm ho ha hbase hfew hline hs hplain) hsw) fun Dn σ H ⟨H0, M, Zo, Z, ρ, De, f, ⟨p, e1, q⟩, l⟩ => by
    obtain ⟨a, h1, h2, h3, xs, h4, h5⟩ := f.v.own i _ e1
    refine ⟨.ref a, h1, .inl ⟨rfl, xs, SqL.of h4⟩, Zo, Z, ρ, _, _, f.v, q, fun vs H' ds x g1 r1 q' => ?_, l.er f⟩
    have f' := f.ex x g1
    obtain ⟨a', h1', h2', h3', xs', h4', h5'⟩ := f'.v.own i _ e1
    rw [h1] at h1'; cases h1'
    refine hd Z H' a xs' vs p ds _ _ h4' h5' r1 q' fun v ys pq dv ry rv q2 => ?_
    exact l.nx _ _ _ _ (f'.mut (d' := .py (.list pq)) e1 h1 ⟨ys, upd_same, ry.mono (fun c z => .inl z) fun c u e n => by
      rw [upd_ne (fun w => n (by rw [w]; exact h2))]
      exact e⟩) q2
/-- append -/
@[simp] def gApp : List PyData → List D → (D → List PyData → Prop) → Prop
  | p, [.py x], Q => p.length < sizeLine ∧ Q (.py .none) (p ++ [x])
  | _, _, _ => False
theorem rd_app : MutD b rAppend gApp := by
  intro Z H a xs vs p ds Q Qd h rx rv g k
  match ds, g, rv with
  | [.py x], ⟨hl, q⟩, .cons (v := v) rv .nil => exact ⟨a, xs, v, rfl, rfl, h, by rw [rx.length]; exact hl, k _ _ _ (.py .none) (rx.append (.cons rv .nil)) (Rq.non : Rq Z H .non .none) q⟩
theorem vs_app (ho : PE X o (tVar i)) (ha : VAs X b W [e] ta) (hbase : attributeBase o "append" X.env (eval o X.env) = eval o X.env := by rfl)
    (hfew : ((backTo cpos (starEach [e] X.env)).all (fun x => !x.1) && (backToKw cpos (keywordEach [] X.env)).all (fun x => x.1.isSome)
      && decide ([e].length + ([] : List Keyword).length + (if ([] : List Keyword).isEmpty then 0 else 1) < 30)) = true := by rfl)
    (hline : (apos.endLine == cpos.line) = true := by rfl) (hs : starEach [e] X.env = (false, eval e X.env) :: starEach [] X.env := by rfl) (hplain : (backTo cpos (starEach [] X.env)).any (·.1) = false := by rfl)
    (hsw : swapsWith (.Call (.Attribute o "append" apos) [e] [] cpos) none pos.line X.env = pure false := by rfl) :
    VSt X b W (.Expr (.Call (.Attribute o "append" apos) [e] [] cpos) pos) (sMut i gApp ta) :=
  vs_mut PySem.F.slot_list_append PySem.F.type_list_append mt_append rd_app ho ha hbase hfew hline hs hplain hsw
end
end VL
set_option Elab.async false
set_option linter.all false
set_option maxRecDepth 100000
set_option maxHeartbeats 4000000
namespace VL
open PySem PySem.Spec PyProof.Rows L2 HT
/-! ### dicts with keys int or text: read, get, put -/
def keyOf : PyData → Option Key
  | .int i => some (.inl i)
  | .str x => some (.inr x)
  | _ => none
@[simp] theorem keyOf_kD (k : Key) : keyOf (kD k) = some k := by cases k <;> rfl
def getD (ds : List (PyData × PyData)) (k : Key) : Option PyData := (ds.find? fun p => decide (keyOf p.1 = some k)).map (·.2)
def putD (ds : List (PyData × PyData)) (k : Key) (x : PyData) : List (PyData × PyData) :=
  if (ds.any fun p => decide (keyOf p.1 = some k)) = true then ds.map (fun p => if keyOf p.1 = some k then (p.1, x) else p) else ds ++ [(kD k, x)]
section
variable {Z : Addr → Prop} {H : Hp}
theorem Rqk.any {k : Key} : ∀ {kvs : List (Key × V)} {ds : List (PyData × PyData)}, Rqk Z H kvs ds → (kvs.any fun kv => decide (kv.1 = k)) = (ds.any fun p => decide (keyOf p.1 = some k))
  | _, _, .nil => rfl
  | _, _, .cons (k := k') r t => by
    rw [List.any_cons, List.any_cons, Rqk.any t]
    simp [-kD]
theorem Rqk.get {k : Key} : ∀ {kvs : List (Key × V)} {ds : List (PyData × PyData)}, Rqk Z H kvs ds → (valV kvs k = none ∧ getD ds k = none) ∨ ∃ v d, valV kvs k = some v ∧ getD ds k = some d ∧ Rq Z H v d
  | _, _, .nil => .inl ⟨rfl, rfl⟩
  | _, _, .cons (k := k') (v := v) (d := d) r t => by
    by_cases e : k' = k
    · exact .inr ⟨v, d, valV_pos e, by simp [-kD, getD, List.find?_cons, e], r⟩
    · have h1 : ∀ r, valV ((k', v) :: r) k = valV r k := fun r => valV_neg e
      have h2 : ∀ ds, getD ((kD k', d) :: ds) k = getD ds k := fun ds => by simp [-kD, getD, List.find?_cons, e]
      rcases Rqk.get (k := k) t with ⟨a, c⟩ | ⟨v', d', a, c, q⟩
      · exact .inl ⟨by rw [h1]; exact a, by rw [h2]; exact c⟩
      · exact .inr ⟨v', d', by rw [h1]; exact a, by rw [h2]; exact c, q⟩
theorem Rqk.map {k : Key} {v : V} {x : PyData} (rx : Rq Z H v x) : ∀ {kvs : List (Key × V)} {ds : List (PyData × PyData)}, Rqk Z H kvs ds → Rqk Z H (kvs.map fun kv => if kv.1 = k then (kv.1, v) else kv) (ds.map fun p => if keyOf p.1 = some k then (p.1, x) else p)
  | _, _, .nil => .nil
  | _, _, .cons (k := k') r t => by
    rw [List.map_cons, List.map_cons]
    by_cases e : k' = k
    · simp only [keyOf_kD, e, if_true]
      exact .cons rx (Rqk.map rx t)
    · simp only [keyOf_kD, Option.some.injEq, e, if_false]
      exact .cons r (Rqk.map rx t)
theorem Rqk.snoc {k : Key} {v : V} {x : PyData} (rx : Rq Z H v x) : ∀ {kvs : List (Key × V)} {ds : List (PyData × PyData)}, Rqk Z H kvs ds → Rqk Z H (kvs ++ [(k, v)]) (ds ++ [(kD k, x)])
  | _, _, .nil => .cons rx .nil
  | _, _, .cons r t => .cons r (Rqk.snoc rx t)
theorem Rqk.put {k : Key} {v : V} {x : PyData} {kvs : List (Key × V)} {ds : List (PyData × PyData)} (rx : Rq Z H v x) (t : Rqk Z H kvs ds) : Rqk Z H (putK kvs k v) (putD ds k x) := by
  unfold putK putD
  rw [t.any]
  split
  · exact t.map rx
  · exact t.snoc rx
end
end VL
set_option Elab.async false
set_option linter.all false
set_option maxRecDepth 100000
set_option maxHeartbeats 4000000
namespace VL
open PySem PySem.Spec PyProof.Rows L2 HT
section
variable {b : Bg} {Zo Z : Addr → Prop} {σ : L2.St} {H H' : Hp} {ρ : VEnv}
theorem VOk.rqk (v : VOk b Zo Z σ H ρ) (x : Ex b H H') {u : List (Key × V)} {d : List (PyData × PyData)} (r : Rqk Z H u d) : Rqk Z H' u d := r.mono (fun a z => .inl z) (v.keep x)
/-- a borrowed dict -/
theorem VOk.rdict (v : VOk b Zo Z σ H ρ) {u : V} {ds : List (PyData × PyData)} (r : Rb b Z H u (.py (.dict ds))) : ∃ a kvs, u = .ref a ∧ H a = some (.dK kvs) ∧ ¬ b.B a ∧ Rqk Z H kvs ds := by
  rcases r with r | ⟨a, e, nb, _, kvs, h, rk⟩
  · have r : Rq Z H u (.dict ds) := r
    cases r with
    | dct h n rk => exact ⟨_, _, rfl, h, v.nb n, rk⟩
  · exact ⟨a, kvs, e, h, nb, rk⟩
theorem Rq.key {u : V} {p : PyData} {k : Key} (r : Rq Z H u p) (e : keyOf p = some k) : u = kV k := by
  cases p <;> simp only [keyOf] at e <;> cases e
  · cases r; rfl
  · cases r; rfl
end
@[simp] def vDGet2 (td ty tx : VT) : VT := fun ρ Q E => td ρ (fun d => ∃ ds, d = .py (.dict ds) ∧ ty ρ (fun y => ∃ k kk, y = .py k ∧ keyOf k = some kk ∧ tx ρ (fun z => ∃ p, z = .py p ∧ Q (.py ((getD ds kk).getD p))) E) E) E
@[simp] def vDGet1 (td ty : VT) : VT := fun ρ Q E => td ρ (fun d => ∃ ds, d = .py (.dict ds) ∧ ty ρ (fun y => ∃ k kk, y = .py k ∧ keyOf k = some kk ∧ Q (.py ((getD ds kk).getD .none))) E) E
@[simp] def vDIx (td ty : VT) : VT := fun ρ Q E => td ρ (fun d => ∃ ds, d = .py (.dict ds) ∧ ty ρ (fun y => ∃ k kk x, y = .py k ∧ keyOf k = some kk ∧ getD ds kk = some x ∧ Q (.py x)) E) E
section
variable {X : Cx} {b : Bg} {W : WX} {o e f : Expr} {td ty tx : VT} {apos cpos pos pos' : Pos} {i : Nat}
theorem ve_dget2 (hu : X.A.units + 1 < cLine) (ho : VX X b W o td) (he : VE X b W e ty) (hf : VE X b W f tx) (m : M2 X o "get" apos e f cpos) : VE X b W (.Call (.Attribute o "get" apos) [e, f] [] cpos) (vDGet2 td ty tx) :=
  pe_mono (pe_dget2 hu ho he hf m) fun σ H Q ⟨Zo, Z, ρ, Qd, Ed, v, q, l, me⟩ => ⟨Zo, Z, ρ, _, Ed, v, q, fun x H1 d x1 g1 r1 ⟨ds, ed, q1⟩ => by
    subst ed
    have v1 := v.ex x1 g1
    obtain ⟨a, kvs, rfl, h, nb, rk⟩ := v1.rdict r1
    refine ⟨a, rfl, .inl ⟨kvs, .inl h⟩, Zo, Z, ρ, _, Ed, v1, q1, fun y H2 dy x2 g2 r2 ⟨k, kk, ey, ek, q2⟩ => ?_, fun c y H2 er x2 g2 r2 q2 => me c y H2 er (x1.trans x2) g2 r2 q2⟩
    subst ey
    have v2 := v1.ex x2 g2
    refine ⟨Zo, Z, ρ, _, Ed, v2, q2, fun z H3 dz x3 g3 r3 ⟨p, ez, q3⟩ => ?_, fun c y H3 er x3 g3 r3 q3 => me c y H3 er ((x1.trans x2).trans x3) g3 r3 q3⟩
    subst ez
    have x23 := x2.trans x3
    have h3 := x23 a _ h nb
    have rk3 := v1.rqk x23 rk
    have ek' : y = kV kk := Rq.key (Z := Z) r2 ek
    refine ⟨valV kvs kk, by rw [ek']; exact DGet.k h3, l _ H3 _ (x1.trans x23) g3 ?_ q3⟩
    rcases rk3.get (k := kk) with ⟨e1, e2⟩ | ⟨u, d', e1, e2, ru⟩
    · rw [e1, e2]; exact r3
    · rw [e1, e2]; exact ru, me⟩
theorem ve_dget1 (hu : X.A.units + 1 < cLine) (ho : VX X b W o td) (he : VE X b W e ty) (m : M1 X o "get" apos e cpos) : VE X b W (.Call (.Attribute o "get" apos) [e] [] cpos) (vDGet1 td ty) :=
  pe_mono (pe_dget1 hu ho he m) fun σ H Q ⟨Zo, Z, ρ, Qd, Ed, v, q, l, me⟩ => ⟨Zo, Z, ρ, _, Ed, v, q, fun x H1 d x1 g1 r1 ⟨ds, ed, q1⟩ => by
    subst ed
    have v1 := v.ex x1 g1
    obtain ⟨a, kvs, rfl, h, nb, rk⟩ := v1.rdict r1
    refine ⟨a, rfl, .inl ⟨kvs, .inl h⟩, Zo, Z, ρ, _, Ed, v1, q1, fun y H2 dy x2 g2 r2 ⟨k, kk, ey, ek, q2⟩ => ?_, fun c y H2 er x2 g2 r2 q2 => me c y H2 er (x1.trans x2) g2 r2 q2⟩
    subst ey
    have h3 := x2 a _ h nb
    have rk3 := v1.rqk x2 rk
    have ek' : y = kV kk := Rq.key (Z := Z) r2 ek
    refine ⟨valV kvs kk, by rw [ek']; exact DGet.k h3, l _ H2 _ (x1.trans x2) g2 ?_ q2⟩
    rcases rk3.get (k := kk) with ⟨e1, e2⟩ | ⟨u, d', e1, e2, ru⟩
    · rw [e1, e2]; exact (Rq.non : Rq Z H2 .non .none)
    · rw [e1, e2]; exact ru, me⟩
theorem ve_dix (hu : X.A.units + 1 < cLine) (ho : VX X b W o td) (he : VE X b W e ty) (hs : NoSl e := by exact fun _ _ => rfl) : VE X b W (.Subscript o e pos) (vDIx td ty) :=
  pe_mono (pe_dget hu ho he hs) fun σ H Q ⟨Zo, Z, ρ, Qd, Ed, v, q, l, me⟩ => ⟨Zo, Z, ρ, _, Ed, v, q, fun x H1 d x1 g1 r1 ⟨ds, ed, q1⟩ => by
    subst ed
    have v1 := v.ex x1 g1
    obtain ⟨a, kvs, rfl, h, nb, rk⟩ := v1.rdict r1
    refine ⟨Zo, Z, ρ, _, Ed, v1, q1, fun y H2 dy x2 g2 r2 ⟨k, kk, w, ey, ek, ew, q2⟩ => ?_, fun c y H2 er x2 g2 r2 q2 => me c y H2 er (x1.trans x2) g2 r2 q2⟩
    subst ey
    have h3 := x2 a _ h nb
    have rk3 := v1.rqk x2 rk
    have ek' : y = kV kk := Rq.key (Z := Z) r2 ek
    rcases rk3.get (k := kk) with ⟨e1, e2⟩ | ⟨u, d', e1, e2, ru⟩
    · rw [ew] at e2; cases e2
    · rw [ew] at e2; cases e2
      exact ⟨a, u, rfl, by rw [ek', ← e1]; exact DGet.k h3, l _ H2 (.py w) (x1.trans x2) g2 ru q2⟩, me⟩
/-- d[k] = x for an owned dict -/
@[simp] def sDPutO (i : Nat) (ty tv : VT) : VS := fun ρ De => ∃ ds, ρ[i]? = some (.own (.py (.dict ds))) ∧ tv ρ (fun x => ∃ p, x = .py p ∧ ty ρ (fun y => ∃ k kk, y = .py k ∧ keyOf k = some kk ∧ ds.length < sizeLine ∧ De.nx (ρ.set i (.own (.py (.dict (putD ds kk p)))))) (De.ex ρ)) (De.ex ρ)
theorem vs_dputO {tv : VT} {value : Expr} (hu : X.A.units + 1 < cLine) (ho : PE X o (tVar i)) (he : VE X b W e ty) (hv : VE X b W value tv) (hs : swapsWith value (some (.Subscript o e pos')) pos.line X.env = pure false := by rfl) :
    VSt X b W (.Assign [.Subscript o e pos'] value pos) (sDPutO i ty tv) :=
  ps_mono (ps_dput hu ho he hv hs) fun Dn σ H ⟨H0, M, Zo, Z, ρ, De, f, ⟨ds, e1, q⟩, l⟩ => by
    refine ⟨Zo, Z, ρ, _, _, f.v, q, fun v H1 dv x1 g1 r1 ⟨p, ep, q1⟩ => ?_, l.er f⟩
    subst ep
    have f1 := f.ex x1 g1
    obtain ⟨a, h1, h2, h3, kvs, h4, h5⟩ := f1.v.own i _ e1
    have nb : ¬ b.B a := fun z => h3 (f1.v.zb a z)
    refine ⟨.ref a, h1, Zo, Z, ρ, _, _, f1.v, q1, fun y H2 dy x2 g2 r2 ⟨k, kk, ey, ek, hl, q2⟩ => ?_, l.er f1⟩
    subst ey
    have f2 := f1.ex x2 g2
    have ek' : y = kV kk := Rq.key (Z := Z) r2 ek
    have h4' := x2 a _ h4 nb
    have h5' := f1.v.rqk x2 h5
    refine ⟨a, _, rfl, by rw [ek']; exact DPut.k h4' (by rw [h5.length]; exact hl), l.nx _ _ _ _ (f2.mut (d' := .py (.dict (putD ds kk p))) e1 h1 ⟨_, upd_same, ?_⟩) q2⟩
    exact (h5'.put (f1.v.rq x2 r1)).mono (fun c z => .inl z) fun c u e n => by
      rw [upd_ne (fun w => n (by rw [w]; exact h2))]
      exact e
end
end VL
set_option Elab.async false
set_option linter.all false
set_option maxRecDepth 100000
set_option maxHeartbeats 4000000
namespace VL
open PySem PySem.Spec PyProof.Rows L2 HT
/-- a constant of the module that is a text -/
theorem ve_gstr {X : Cx} {b : Bg} {W : WX} {pos : Pos} {x : Str} {i : Str} (hg : Gl X x) (hm : ∃ t, X.mg x = some (.str i t)) (hd : (x == ("__debug__" : Str)) = false := by decide) : VE X b W (.Name x pos) (vC (.py (.str i))) := by
  obtain ⟨t, h⟩ := hm
  exact ve_glob (v := .str i) hg h ⟨t, rfl⟩ (fun _ _ => .str i) hd
end VL
set_option Elab.async false
set_option linter.all false
set_option maxRecDepth 100000
set_option maxHeartbeats 4000000
namespace VL
open PySem PySem.Spec PyProof.Rows L2 HT
/-! ### typed data -/
abbrev pI : Int → PyData := PyData.int
def pN (n : Nat) : PyData := .int (n : Int)
def oN : Option Nat → PyData
  | none => .none
  | some n => .int (n : Int)
@[simp] def tI (gs : List Int) : PyData := .tuple (gs.map PyData.int)
@[simp] def tN (ns : List Nat) : PyData := .tuple (ns.map pN)
theorem map_inj {α β : Type} {f : α → β} (h : ∀ a b, f a = f b → a = b) : ∀ {xs ys : List α}, xs.map f = ys.map f ↔ xs = ys
  | [], [] => ⟨fun _ => rfl, fun _ => rfl⟩
  | [], _ :: _ => by simp
  | _ :: _, [] => by simp
  | x :: xs, y :: ys => by
    rw [List.map_cons, List.map_cons, List.cons.injEq, List.cons.injEq, map_inj h]
    exact ⟨fun ⟨a, b⟩ => ⟨h _ _ a, b⟩, fun ⟨a, b⟩ => ⟨by rw [a], b⟩⟩
theorem pN_inj (a b : Nat) (e : pN a = pN b) : a = b := by unfold pN at e; injection e with e; omega
@[simp] theorem pN_eq {a b : Nat} : pN a = pN b ↔ a = b := ⟨pN_inj a b, fun e => by rw [e]⟩
@[simp] theorem mapI_inj {xs ys : List Int} : xs.map PyData.int = ys.map PyData.int ↔ xs = ys := map_inj fun a b e => by injection e
@[simp] theorem mapN_inj {xs ys : List Nat} : xs.map pN = ys.map pN ↔ xs = ys := map_inj pN_inj
theorem tI_inj {xs ys : List Int} : tI xs = tI ys ↔ xs = ys := ⟨fun e => by unfold tI at e; injection e with e; exact mapI_inj.mp e, fun e => by rw [e]⟩
theorem tN_inj {xs ys : List Nat} : tN xs = tN ys ↔ xs = ys := ⟨fun e => by unfold tN at e; injection e with e; exact mapN_inj.mp e, fun e => by rw [e]⟩
@[simp] theorem oN_inj {a b : Option Nat} : oN a = oN b ↔ a = b := by
  cases a <;> cases b <;> simp [oN]
  omega
theorem atI_map {α β : Type} {f : α → β} {xs : List α} {k : Nat} {x : α} (h : xs[k]? = some x) : atI (xs.map f) (k : Int) = some (f x) := atI_nat (by rw [List.getElem?_map, h]; rfl)
theorem enumP_len (xs : List PyData) : (enumP xs).length = xs.length := by simp [enumP]
theorem enumP_getD {α : Type} {f : α → PyData} {xs : List α} {k : Nat} {d : PyData} (h : (enumP (xs.map f))[k]? = some d) : ∃ x, xs[k]? = some x ∧ d = .tuple [.int (k : Nat), f x] := by
  obtain ⟨x, h1, h2⟩ := enumP_get h
  rw [List.getElem?_map] at h1
  cases e : xs[k]? with
  | none => rw [e] at h1; cases h1
  | some y => rw [e] at h1; cases h1; exact ⟨y, rfl, h2⟩
theorem take_succ_get {α : Type} {xs : List α} {k : Nat} {x : α} (h : xs[k]? = some x) : xs.take (k + 1) = xs.take k ++ [x] := by
  rw [List.take_add_one, h]; rfl
end VL
namespace VL
open PySem PySem.Spec PyProof.Rows L2 HT
theorem putD_len (ds : List (PyData × PyData)) (k : Key) (x : PyData) : (putD ds k x).length ≤ ds.length + 1 := by
  unfold putD
  split
  · simp
  · simp
theorem getD_putD (ds : List (PyData × PyData)) (k j : Key) (x : PyData) : getD (putD ds k x) j = if j = k then some x else getD ds j := by
  unfold putD
  split
  · rename_i h
    have e : ∀ l : List (PyData × PyData), getD (l.map fun p => if keyOf p.1 = some k then (p.1, x) else p) j = if j = k then (if (l.any fun p => decide (keyOf p.1 = some k)) = true then some x else none) else getD l j := by
      intro l
      induction l with
      | nil => simp [getD]
      | cons p l ih =>
        unfold getD at ih ⊢
        rw [List.map_cons, List.any_cons, List.find?_cons]
        by_cases c : keyOf p.1 = some k
        · by_cases d : j = k
          · subst d; simp [c]
          · have d' : ¬ (some k = some j) := fun z => d (by cases z; rfl)
            have d'' : ¬ (k = j) := fun z => d z.symm
            simp [c, d, d', d''] at ih ⊢
            simpa [c, d, d', d''] using ih
        · by_cases d : keyOf p.1 = some j
          · have d' : ¬ j = k := fun z => c (by rw [d, z])
            simp [c, d, d']
          · have c' : decide (keyOf p.1 = some k) = false := decide_eq_false c
            have d' : decide (keyOf p.1 = some j) = false := decide_eq_false d
            rw [if_neg c, d', List.find?_cons, c', Bool.false_or]
            simp only [d']
            exact ih
    rw [e, h]; simp
  · rename_i h
    unfold getD
    rw [List.find?_append]
    by_cases d : j = k
    · subst d
      have hn : ds.find? (fun p => decide (keyOf p.1 = some j)) = none := by
        rw [List.find?_eq_none]
        intro p hp hc
        exact h (List.any_eq_true.mpr ⟨p, hp, hc⟩)
      simp [hn, -kD]
    · have d' : ¬ (k = j) := fun z => d z.symm
      simp [d, d', -kD]
@[simp] theorem getD_nil (k : Key) : getD [] k = none := rfl
end VL
set_option Elab.async false
set_option linter.all false
set_option maxRecDepth 100000
set_option maxHeartbeats 4000000
namespace VL
open PySem PySem.Spec PyProof.Rows L2
/-! ### data that is shown in few signs -/
structure Sw (w d : Nat) (p : PyData) : Prop where
  sh : p.showable = true
  ls : p.leavesShort 60 = true
  wt : p.weight ≤ w
  dp : p.depth ≤ d
theorem Sw.mono {w d w' d' : Nat} {p : PyData} (h : Sw w d p) (hw : w ≤ w') (hd : d ≤ d') : Sw w' d' p := ⟨h.sh, h.ls, Nat.le_trans h.wt hw, Nat.le_trans h.dp hd⟩
theorem Sw.len {w d : Nat} {p : PyData} (h : Sw w d p) : p.shown.length ≤ 62 * w + 60 := by
  have := PyData.shown_le 60 (by omega) p h.ls
  have := h.wt
  omega
theorem Sw.repr {w d : Nat} {p : PyData} (h : Sw w d p) (hw : w ≤ 260000 := by decide) (hd : d ≤ 40 := by decide) : ReprOk p := ⟨h.sh, by have := h.len; rw [szl]; omega, Nat.le_trans h.dp hd⟩
theorem Sw.all {w d : Nat} : ∀ {ps : List PyData}, (∀ p ∈ ps, Sw w d p) → PyData.showableAll ps = true ∧ PyData.leavesShortAll 60 ps = true ∧ PyData.weightAll ps ≤ (w + 1) * ps.length ∧ PyData.depthAll ps ≤ d
  | [], _ => ⟨rfl, rfl, Nat.zero_le _, Nat.zero_le _⟩
  | p :: ps, h => by
    have hp := h p List.mem_cons_self
    obtain ⟨a, b, c, e⟩ := Sw.all (ps := ps) fun q hq => h q (List.mem_cons_of_mem _ hq)
    refine ⟨by simp only [PyData.showableAll, hp.sh, a, Bool.and_self], by simp only [PyData.leavesShortAll, hp.ls, b, Bool.and_self], ?_, ?_⟩
    · have := hp.wt
      rw [List.length_cons, Nat.mul_add]
      simp only [PyData.weightAll]
      omega
    · have := hp.dp
      simp only [PyData.depthAll]
      omega
theorem Sw.tup {w d n : Nat} {ps : List PyData} (h : ∀ p ∈ ps, Sw w d p) (hn : ps.length ≤ n) : Sw ((w + 1) * n) (d + 1) (.tuple ps) := by
  obtain ⟨a, b, c, e⟩ := Sw.all h
  have m : (w + 1) * ps.length ≤ (w + 1) * n := Nat.mul_le_mul_left _ hn
  exact ⟨by simpa only [PyData.showable] using a, by simpa only [PyData.leavesShort] using b, by simp only [PyData.weight]; omega, by simp only [PyData.depth]; omega⟩
theorem Sw.lst {w d n : Nat} {ps : List PyData} (h : ∀ p ∈ ps, Sw w d p) (hn : ps.length ≤ n) : Sw ((w + 1) * n) (d + 1) (.list ps) := by
  obtain ⟨a, b, c, e⟩ := Sw.all h
  have m : (w + 1) * ps.length ≤ (w + 1) * n := Nat.mul_le_mul_left _ hn
  exact ⟨by simpa only [PyData.showable] using a, by simpa only [PyData.leavesShort] using b, by simp only [PyData.weight]; omega, by simp only [PyData.depth]; omega⟩
theorem Sw.int {i : Int} (h : i.natAbs < 10 ^ 12) : Sw 40 2 (.int i) := by
  have l : i.natAbs.log2 < 40 := by
    by_cases z : i.natAbs = 0
    · rw [z]; decide
    · exact (Nat.log2_lt z).mpr (by omega)
  refine ⟨by simp only [PyData.showable, decide_eq_true_eq]; omega, ?_, ?_, by simp only [PyData.depth]; omega⟩
  · have := PyData.shown_int_le h
    simp only [PyData.leavesShort, decide_eq_true_eq]
    omega
  · simp only [PyData.weight]
    split <;> omega
instance (w d : Nat) (p : PyData) : Decidable (Sw w d p) := decidable_of_iff (p.showable = true ∧ p.leavesShort 60 = true ∧ p.weight ≤ w ∧ p.depth ≤ d) ⟨fun ⟨a, b, c, e⟩ => ⟨a, b, c, e⟩, fun ⟨a, b, c, e⟩ => ⟨a, b, c, e⟩⟩
theorem sw_ofString {s : String} {n : Nat} (h : s.length ≤ n) : Sw n 0 (.str (Str.ofString s)) := by
  refine ⟨by simp only [PyData.showable], ?_, ?_, by simp only [PyData.depth]; omega⟩
  · simp only [PyData.leavesShort]
    rw [signs_ofString, List.all_eq_true]
    intro c hc
    obtain ⟨d, _, rfl⟩ := List.mem_map.mp hc
    have : d.toNat < 2 ^ 32 := UInt32.toNat_lt d.val
    exact decide_eq_true (by omega)
  · have e := PySem.ofString_length s
    simp only [PyData.weight]
    unfold Str.length at e
    omega
theorem Sw.tI {n : Nat} {gs : List Int} (h : ∀ g ∈ gs, g.natAbs < 10 ^ 12) (hn : gs.length ≤ n) : Sw (41 * n) 3 (tI gs) := Sw.tup (w := 40) (d := 2) (fun p hp => by
  obtain ⟨g, hg, rfl⟩ := List.mem_map.mp hp
  exact Sw.int (h g hg)) (by rw [List.length_map]; exact hn)
theorem Sw.pN {n : Nat} (h : n < 10 ^ 12) : Sw 40 2 (pN n) := Sw.int (by omega)
theorem Sw.none : Sw 40 2 .none := by decide +kernel
theorem Sw.bool (k : Bool) : Sw 40 2 (.bool k) := by cases k <;> decide +kernel
theorem Sw.oN {o : Option Nat} (h : ∀ n, o = some n → n < 10 ^ 12) : Sw 40 2 (oN o) := by
  cases o with
  | none => exact Sw.none
  | some n => exact Sw.int (by have := h n rfl; omega)
theorem Sw.map {α : Type} {f : α → PyData} {xs : List α} {w d n : Nat} (h : ∀ x ∈ xs, Sw w d (f x)) (hn : xs.length ≤ n) : Sw ((w + 1) * n) (d + 1) (.tuple (xs.map f)) ∧ Sw ((w + 1) * n) (d + 1) (.list (xs.map f)) := by
  have : ∀ p ∈ xs.map f, Sw w d p := fun p hp => by
    obtain ⟨x, hx, rfl⟩ := List.mem_map.mp hp
    exact h x hx
  exact ⟨Sw.tup this (by rw [List.length_map]; exact hn), Sw.lst this (by rw [List.length_map]; exact hn)⟩
theorem Sw.l2 {w d : Nat} {p q : PyData} (h : Sw w d p) (k : Sw w d q) : Sw ((w + 1) * 2) (d + 1) (.list [p, q]) := Sw.lst (fun x hx => by
  simp at hx
  rcases hx with rfl | rfl
  · exact h
  · exact k) (by simp)
theorem Sw.t2 {w d : Nat} {p q : PyData} (h : Sw w d p) (k : Sw w d q) : Sw ((w + 1) * 2) (d + 1) (.tuple [p, q]) := Sw.tup (fun x hx => by
  simp at hx
  rcases hx with rfl | rfl
  · exact h
  · exact k) (by simp)
theorem Sw.t3 {w d : Nat} {p q r : PyData} (h : Sw w d p) (k : Sw w d q) (j : Sw w d r) : Sw ((w + 1) * 3) (d + 1) (.tuple [p, q, r]) := Sw.tup (fun x hx => by
  simp at hx
  rcases hx with rfl | rfl | rfl
  · exact h
  · exact k
  · exact j) (by simp)
end VL
set_option Elab.async false
set_option linter.all false
set_option maxRecDepth 100000
set_option maxHeartbeats 4000000
namespace VL
open PySem PySem.Spec PyProof.Rows L2 HT
/-! ### comprehensions and loops over encoded lists -/
section
variable {g : VTg} {tt : VB} {te : VT} {ρ : VEnv} {Q : D → Prop} {α : Type}
theorem lc_enc (enc : α → PyData) (f : α → Option PyData) : ∀ {L : List α} {acc : List PyData}, (∀ (i : Nat) (x : α), L[i]? = some x → ∀ k, k (f x) → lcStep g tt te (.py (enc x)) ρ k) → acc.length + L.length < 16777216 → Q (.py (.list (acc ++ L.filterMap f))) → lcGo g tt te Q ((L.map enc).map D.py) acc ρ
  | [], acc, _, _, q => by simpa using q
  | x :: xs, acc, h, hl, q => by
    refine lcGo_cons (h 0 x rfl _ ?_)
    have hr : ∀ (i : Nat) (y : α), xs[i]? = some y → ∀ k, k (f y) → lcStep g tt te (.py (enc y)) ρ k := fun i y hy => h (i + 1) y (by simpa using hy)
    rw [List.length_cons] at hl
    rw [List.filterMap_cons] at q
    cases e : f x with
    | none => rw [e] at q; exact lc_enc enc f hr (by omega) q
    | some p =>
      rw [e] at q
      refine ⟨by rw [szl]; omega, lc_enc enc f hr (by rw [List.length_append, List.length_singleton]; omega) ?_⟩
      rw [List.append_assoc]
      exact q
theorem filterMap_if (p : α → Bool) (e : α → PyData) : ∀ L : List α, L.filterMap (fun x => if p x = true then some (e x) else none) = (L.filter p).map e
  | [] => rfl
  | x :: xs => by
    rw [List.filterMap_cons, filterMap_if p e xs, List.filter_cons]
    cases p x <;> simp
theorem lc_encF (enc : α → PyData) (p : α → Bool) (e : α → PyData) {L : List α} (h : ∀ (i : Nat) (x : α), L[i]? = some x → ∀ k, (p x = true → k (some (e x))) → (p x = false → k none) → lcStep g tt te (.py (enc x)) ρ k)
    (hl : L.length < 16777216) (q : Q (.py (.list ((L.filter p).map e)))) : lcGo g tt te Q ((L.map enc).map D.py) [] ρ := by
  refine lc_enc enc (fun x => if p x = true then some (e x) else none) (fun i x hx k hk => h i x hx k (fun c => by simpa [c] using hk) (fun c => by simpa [c] using hk)) (by simpa using hl) ?_
  rw [filterMap_if, List.nil_append]
  exact q
theorem lc_encM (enc : α → PyData) (e : α → PyData) {L : List α} (h : ∀ (i : Nat) (x : α), L[i]? = some x → ∀ k, k (some (e x)) → lcStep g tt te (.py (enc x)) ρ k)
    (hl : L.length < 16777216) (q : Q (.py (.list (L.map e)))) : lcGo g tt te Q ((L.map enc).map D.py) [] ρ := by
  refine lc_enc enc (fun x => some (e x)) h (by simpa using hl) ?_
  rw [List.nil_append, List.filterMap_eq_map']
  exact q
/-- .. each item with R -/
theorem lc_encR (enc : α → PyData) {β : Type} (e : β → PyData) (R : α → β → Prop) : ∀ {L : List α} {acc : List PyData}, (∀ (i : Nat) (x : α), L[i]? = some x → ∀ k, (∀ y, R x y → k (some (e y))) → lcStep g tt te (.py (enc x)) ρ k)
    → acc.length + L.length < 16777216 → (∀ ys : List β, ys.length = L.length → (∀ (i : Nat) (x : α) (y : β), L[i]? = some x → ys[i]? = some y → R x y) → Q (.py (.list (acc ++ ys.map e)))) → lcGo g tt te Q ((L.map enc).map D.py) acc ρ
  | [], acc, _, _, q => by simpa using q [] rfl (fun i x y h => by simp at h)
  | x :: xs, acc, h, hl, q => by
    refine lcGo_cons (h 0 x rfl _ fun y hy => ?_)
    rw [List.length_cons] at hl
    refine ⟨by rw [szl]; omega, lc_encR enc e R (fun i z hz => h (i + 1) z (by simpa using hz)) (by rw [List.length_append, List.length_singleton]; omega) fun ys hl hr => ?_⟩
    rw [List.append_assoc]
    refine q (y :: ys) (by simp [hl]) fun i a b ha hb => ?_
    cases i with
    | zero => simp at ha hb; subst ha hb; exact hy
    | succ i => exact hr i a b (by simpa using ha) (by simpa using hb)
end
section
variable {g : VTg} {tb : VS} {De : VEnds} {α : Type}
theorem for_enc (enc : α → PyData) (Iv : Nat → VEnv → Prop) {L : List α} {ρ : VEnv} (h0 : Iv 0 ρ) (h : ∀ i x ρ, L[i]? = some x → Iv i ρ → ∀ nx ct : VEnv → Prop, (∀ ρ', Iv (i + 1) ρ' → nx ρ' ∧ ct ρ') → g (.py (enc x)) ρ fun ρ1 => tb ρ1 ⟨nx, De.rt, De.nx, ct, De.ex⟩) (hd : ∀ ρ, Iv L.length ρ → De.nx ρ) :
    forGo g tb ((L.map enc).map D.py) ρ De := by
  refine for_inv Iv (fun i x ρ hx iv nx ct hn => ?_) (fun ρ iv => hd ρ (by simpa using iv)) h0
  rw [List.getElem?_map] at hx
  cases e : L[i]? with
  | none => rw [e] at hx; cases hx
  | some y => rw [e] at hx; cases hx; exact h i y ρ e iv nx ct hn
end
def encR (lo : Int) (k : Nat) : PyData := .int (lo + (k : Nat))
theorem rangeP_eq (lo : Int) (n : Nat) : rangeP lo n = (List.range n).map (encR lo) := rfl
@[simp] theorem encR0 (k : Nat) : encR 0 k = .int (k : Int) := by unfold encR; rw [Int.zero_add]
theorem encR_eq (lo : Int) (k : Nat) : encR lo k = .int (lo + (k : Nat)) := rfl
def encE {α : Type} (enc : α → PyData) (p : α × Nat) : PyData := .tuple [.int (p.2 : Nat), enc p.1]
@[simp] theorem encE_eq {α : Type} (enc : α → PyData) (x : α) (n : Nat) : encE enc (x, n) = .tuple [.int (n : Nat), enc x] := rfl
theorem enumP_enc {α : Type} (enc : α → PyData) (L : List α) : enumP (L.map enc) = L.zipIdx.map (encE enc) := by
  unfold enumP encE
  rw [List.zipIdx_map, List.map_map]
  rfl
theorem zipIdx_at {α : Type} {L : List α} {i : Nat} {p : α × Nat} (h : L.zipIdx[i]? = some p) : ∃ x, L[i]? = some x ∧ p = (x, i) := by
  rw [List.getElem?_zipIdx] at h
  cases e : L[i]? with
  | none => rw [e] at h; cases h
  | some x => rw [e] at h; cases h; exact ⟨x, rfl, by simp⟩
theorem range_get {n i x : Nat} (h : (List.range n)[i]? = some x) : x = i ∧ i < n := by
  have hi : i < n := by have := (List.getElem?_eq_some_iff.mp h).1; simpa using this
  rw [List.getElem?_range hi] at h
  cases h
  exact ⟨rfl, hi⟩
end VL
set_option Elab.async false
set_option linter.all false
set_option maxRecDepth 100000
set_option maxHeartbeats 4000000
namespace VL
open PySem PySem.Spec PyProof.Rows L2 HT
/-! ### methods of values -/
def TyIs (X : Cx) (T : String) (x : V) (H : Hp) : Prop := ∀ (pins : List (Addr × Obj)) (σ : L2.St) (s : Shared) (v : Value), Inv X pins σ H s → RelV x v → s.TypeIs v T ∧ ∀ a, v = .ref a → ∃ ob, s.heap.get? a = some ob ∧ ob.dict = none
def AltOk (X : Cx) (name : Str) (x : V) (H : Hp) (r : V → List V → Hp → VK → Prop) : Prop := ∃ T id, PlainAttrs T ∧ PySem.Slot T name id ∧ typeOf (.builtin id) = pure (.type "method_descriptor") ∧ MtR X id r ∧ TyIs X T x H
def tBMx (X : Cx) (name : Str) (to : TE) (t : TA) : TE := fun σ H Q => to σ H fun x H1 => ∃ r, AltOk X name x H1 r ∧ t σ H1 fun xs H2 => r x xs H2 Q
theorem pe_bmx {X : Cx} {o e : Expr} {es : List Expr} {to : TE} {t : TA} {name : Str} {apos cpos : Pos} (ho : PE X o to) (ha : PA X (e :: es) t)
    (hbase : attributeBase o name X.env (eval o X.env) = eval o X.env := by rfl)
    (hfew : ((backTo cpos (starEach (e :: es) X.env)).all (fun x => !x.1) && (backToKw cpos (keywordEach [] X.env)).all (fun x => x.1.isSome)
      && decide ((e :: es).length + ([] : List Keyword).length + (if ([] : List Keyword).isEmpty then 0 else 1) < 30)) = true := by rfl)
    (hline : (apos.endLine == cpos.line) = true := by rfl) (hs : starEach (e :: es) X.env = (false, eval e X.env) :: starEach es X.env := by rfl) (hplain : (backTo cpos (starEach es X.env)).any (·.1) = false := by rfl) :
    PE X (.Call (.Attribute o name apos) (e :: es) [] cpos) (tBMx X name to t) := by
  refine ⟨fun pins s σ H Q I h => ?_⟩
  refine wpAny_Call_method_late hbase hfew hline rfl (thn (ho.run pins s σ H _ I h) fun v s1 ⟨x, H1, I1, r1, r, ⟨T, id, pa, slot, hty, hm, ty⟩, q1⟩ => ?_)
  obtain ⟨h1, h2⟩ := ty pins σ s1 v I1 r1
  refine ⟨T, id, pa, slot, hty, h1, h2, ?_⟩
  have hA := ha.run cpos pins s1 σ H1 _ I1 q1
  rw [hs] at hA ⊢
  refine Calls.callWith_builtin (by show (false || (backTo cpos (starEach es X.env)).any (·.1)) = false; rw [hplain] <;> rfl) (Calls.evalArgs_plain ?_)
  exact thn hA fun us s2 ⟨vs, H2, I2, r2, q2⟩ => hm pins s2 σ H2 x vs v us Q I2 r1 r2 q2
def tBMx0 (X : Cx) (name : Str) (to : TE) : TE := fun σ H Q => to σ H fun x H1 => ∃ r, AltOk X name x H1 r ∧ r x [] H1 Q
theorem pe_bmx0 {X : Cx} {o : Expr} {to : TE} {name : Str} {apos cpos : Pos} (ho : PE X o to)
    (hbase : attributeBase o name X.env (eval o X.env) = eval o X.env := by rfl) (hline : (apos.endLine == cpos.line) = true := by rfl) : PE X (.Call (.Attribute o name apos) [] [] cpos) (tBMx0 X name to) := by
  refine ⟨fun pins s σ H Q I h => ?_⟩
  refine wpAny_Call_method0_late hbase hline (thn (ho.run pins s σ H _ I h) fun v s1 ⟨x, H1, I1, r1, r, ⟨T, id, pa, slot, hty, hm, ty⟩, q1⟩ => ?_)
  obtain ⟨h1, h2⟩ := ty pins σ s1 v I1 r1
  exact ⟨T, id, pa, slot, hty, h1, h2, Calls.callWith_builtin rfl (PySem.evalArgs_none (hm pins s1 σ H1 x [] v [] Q I1 r1 .nil q1))⟩
section
variable {X : Cx} {H : Hp}
theorem ty_str (z : Str) : TyIs X "str" (.str z) H := fun pins σ s v I r => by
  obtain ⟨t, rfl⟩ := r
  exact ⟨typeIs_str s z t, fun _ e => nomatch e⟩
theorem ty_lst {a : Addr} {xs : List V} (e : H a = some (.lst xs)) : TyIs X "list" (.ref a) H := fun pins σ s v I r => by
  cases r
  obtain ⟨its, _, pl, _⟩ := I.list (SqL.of e)
  refine ⟨pl.isList.typeIs, fun a e => ?_⟩
  cases e
  obtain ⟨o, n, e, c, hd, _⟩ := pl
  exact ⟨o, e, hd⟩
theorem ty_tup {a : Addr} {o : Obj} {xs : List V} (e : H a = some (HO.th o xs)) (hd : o.dict = none) : TyIs X "tuple" (.ref a) H := fun pins σ s v I r => by
  cases r
  obtain ⟨h1, _, its, _, ho⟩ := I.hok a _ e
  obtain ⟨o', e', hc, _⟩ := ho
  refine ⟨⟨o', e', hc⟩, fun b eb => ?_⟩
  cases eb
  exact ⟨o, h1, hd⟩
end
/-- a method over values: k says for which receivers it is there -/
def MetX (X : Cx) (b : Bg) (R : (Addr → Prop) → Hp → Hp → V → D → Prop) (name : Str) (k : D → Prop) (g : D → List D → (D → Prop) → Prop) : Prop :=
  ∀ (Z : Addr → Prop) (H : Hp) (x : V) (d : D), Gd b Z H → Rb b Z H x d → k d → ∃ r, AltOk X name x H r ∧ ∀ (H' : Hp) (xs : List V) (ds : List D) (Q : VK) (Qd : D → Prop), Ex b H H' → Gd b Z H' → Rb b Z H' x d → Rbs b Z H' xs ds → g d ds Qd →
    (∀ v H2 e, Ex b H' H2 → b.G H2 → R Z H' H2 v e → Qd e → Q v H2) → r x xs H' Q
@[simp] def vMth (k : D → Prop) (g : D → List D → (D → Prop) → Prop) (to : VT) (ta : VA) : VT := fun ρ Q E => to ρ (fun d => k d ∧ ta ρ (fun ds => g d ds Q) E) E
section
variable {X : Cx} {b : Bg} {W : WX} {o e : Expr} {es : List Expr} {to : VT} {ta : VA} {name : Str} {apos cpos : Pos} {k : D → Prop} {g : D → List D → (D → Prop) → Prop}
theorem coreM {R : (Addr → Prop) → Hp → Hp → V → D → Prop} (hR : ∀ Z H H1 H2 v d, b.G H1 → Ex b H H1 → R Z H1 H2 v d → R Z H H2 v d) (hd : MetX X b R name k g) :
    ∀ σ H Q, LE b W R (vMth k g to ta) σ H Q → tBMx X name (LE b W (fun Z _ H v d => Rb b Z H v d) to) (LAX b W ta) σ H Q :=
  fun σ H Q ⟨Zo, Z, ρ, Qd, Ed, v, q, l, m⟩ => ⟨Zo, Z, ρ, _, Ed, v, q, fun x H1 d x1 g1 r1 ⟨kd, q1⟩ => by
    have v1 := v.ex x1 g1
    obtain ⟨r, al, rr⟩ := hd Z H1 x d v1.gd r1 kd
    exact ⟨r, al, Zo, Z, ρ, _, Ed, v1, q1, fun xs H2 ds x2 g2 r2 q2 => rr H2 xs ds Q Qd x2 (v1.ex x2 g2).gd (r1.ex (v1.keep x2) x2) r2 q2 fun u H3 d3 x3 g3 r3 q3 => l u H3 d3 ((x1.trans x2).trans x3) g3 (hR _ _ _ _ _ _ g2 (x1.trans x2) r3) q3,
      fun c z H2 er x2 g2 r2 q2 => m c z H2 er (x1.trans x2) g2 r2 q2⟩, m⟩
theorem coreM0 {R : (Addr → Prop) → Hp → Hp → V → D → Prop} (hR : ∀ Z H H1 H2 v d, b.G H1 → Ex b H H1 → R Z H1 H2 v d → R Z H H2 v d) (hd : MetX X b R name k g) :
    ∀ σ H Q, LE b W R (vMth k g to vNil) σ H Q → tBMx0 X name (LE b W (fun Z _ H v d => Rb b Z H v d) to) σ H Q :=
  fun σ H Q ⟨Zo, Z, ρ, Qd, Ed, v, q, l, m⟩ => ⟨Zo, Z, ρ, _, Ed, v, q, fun x H1 d x1 g1 r1 ⟨kd, q1⟩ => by
    have v1 := v.ex x1 g1
    obtain ⟨r, al, rr⟩ := hd Z H1 x d v1.gd r1 kd
    exact ⟨r, al, rr H1 [] [] Q Qd Ex.refl v1.gd r1 .nil q1 fun u H3 d3 x3 g3 r3 q3 => l u H3 d3 (x1.trans x3) g3 (hR _ _ _ _ _ _ g1 x1 r3) q3⟩, m⟩
theorem ve_mth (hd : MetX X b (RE b) name k g) (ho : VX X b W o to) (ha : VXs X b W (e :: es) ta)
    (hbase : attributeBase o name X.env (eval o X.env) = eval o X.env := by rfl)
    (hfew : ((backTo cpos (starEach (e :: es) X.env)).all (fun x => !x.1) && (backToKw cpos (keywordEach [] X.env)).all (fun x => x.1.isSome)
      && decide ((e :: es).length + ([] : List Keyword).length + (if ([] : List Keyword).isEmpty then 0 else 1) < 30)) = true := by rfl)
    (hline : (apos.endLine == cpos.line) = true := by rfl) (hs : starEach (e :: es) X.env = (false, eval e X.env) :: starEach es X.env := by rfl) (hplain : (backTo cpos (starEach es X.env)).any (·.1) = false := by rfl) :
    VE X b W (.Call (.Attribute o name apos) (e :: es) [] cpos) (vMth k g to ta) := pe_mono (pe_bmx ho ha hbase hfew hline hs hplain) (coreM hRE hd)
theorem vn_mth (hd : MetX X b (RN b) name k g) (ho : VX X b W o to) (ha : VXs X b W (e :: es) ta)
    (hbase : attributeBase o name X.env (eval o X.env) = eval o X.env := by rfl)
    (hfew : ((backTo cpos (starEach (e :: es) X.env)).all (fun x => !x.1) && (backToKw cpos (keywordEach [] X.env)).all (fun x => x.1.isSome)
      && decide ((e :: es).length + ([] : List Keyword).length + (if ([] : List Keyword).isEmpty then 0 else 1) < 30)) = true := by rfl)
    (hline : (apos.endLine == cpos.line) = true := by rfl) (hs : starEach (e :: es) X.env = (false, eval e X.env) :: starEach es X.env := by rfl) (hplain : (backTo cpos (starEach es X.env)).any (·.1) = false := by rfl) :
    VN X b W (.Call (.Attribute o name apos) (e :: es) [] cpos) (vMth k g to ta) := pe_mono (pe_bmx ho ha hbase hfew hline hs hplain) (coreM hRN hd)
theorem ve_mth0 (hd : MetX X b (RE b) name k g) (ho : VX X b W o to)
    (hbase : attributeBase o name X.env (eval o X.env) = eval o X.env := by rfl) (hline : (apos.endLine == cpos.line) = true := by rfl) :
    VE X b W (.Call (.Attribute o name apos) [] [] cpos) (vMth k g to vNil) := pe_mono (pe_bmx0 ho hbase hline) (coreM0 hRE hd)
end
/-! ### texts -/
@[simp] def isS : D → Prop
  | .py (.str _) => True
  | _ => False
theorem isS_ex : ∀ {d : D}, isS d → ∃ z, d = .py (.str z)
  | .py (.str z), _ => ⟨z, rfl⟩
/-- how often c stands in l: of one sign -/
@[simp] def gTCount : D → List D → (D → Prop) → Prop
  | .py (.str a), [.py (.str b)], Q => Q (.py (.int (Txt.count a b)))
  | _, _, _ => False
theorem mx_count {X : Cx} {b : Bg} : MetX X b (RE b) "count" isS gTCount := fun Z H x d gd rx kd => by
  obtain ⟨z, rfl⟩ := isS_ex kd
  obtain rfl := rx.str
  refine ⟨_, ⟨"str", _, PySem.F.plainAttrs_str, PySem.F.slot_str_count, PySem.F.type_str_count, mt_count, ty_str z⟩, fun H' xs ds Q Qd _ gd' _ rs h k => ?_⟩
  match ds, h, rs with
  | [.py (.str c)], h, .cons r .nil =>
    obtain rfl := r.str
    exact ⟨z, c, rfl, rfl, k _ H' (.py (.int _)) Ex.refl gd'.g (.int _) h⟩
@[simp] def gTJoin : D → List D → (D → Prop) → Prop
  | .py (.str a), [.py (.list xs)], Q => ∃ ys, allS xs = some ys ∧ (ys.map (·.length)).sum + ys.length * a.length ≤ 16777216 ∧ Q (.py (.str (Txt.join a ys)))
  | _, _, _ => False
theorem mx_join {X : Cx} {b : Bg} : MetX X b (RE b) "join" isS gTJoin := fun Z H x d gd rx kd => by
  obtain ⟨z, rfl⟩ := isS_ex kd
  obtain rfl := rx.str
  refine ⟨_, ⟨"str", _, PySem.F.plainAttrs_str, PySem.F.slot_str_join, PySem.F.type_str_join, mt_join, ty_str z⟩, fun H' xs ds Q Qd _ gd' _ rs h k => ?_⟩
  match ds, h, rs with
  | [.py (.list ps)], ⟨ys, e, hl, h⟩, .cons r .nil =>
    obtain ⟨a, us, rfl, ha, qa⟩ := r.list
    rw [allS_of e] at qa
    have eu := qa.strs
    subst eu
    exact ⟨z, a, ys, rfl, rfl, .inl (SqL.of ha), hl, k _ H' (.py (.str _)) Ex.refl gd'.g (.str _) h⟩
@[simp] def gTUpper : D → List D → (D → Prop) → Prop
  | .py (.str a), [], Q => a.length ≤ 5592405 ∧ Q (.py (.str (Txt.upper a)))
  | _, _, _ => False
theorem mx_upper {X : Cx} {b : Bg} : MetX X b (RE b) "upper" isS gTUpper := fun Z H x d gd rx kd => by
  obtain ⟨z, rfl⟩ := isS_ex kd
  obtain rfl := rx.str
  refine ⟨_, ⟨"str", _, PySem.F.plainAttrs_str, PySem.F.slot_str_upper, PySem.F.type_str_upper, mt_upper, ty_str z⟩, fun H' xs ds Q Qd _ gd' _ rs h k => ?_⟩
  match ds, h, rs with
  | [], ⟨hl, h⟩, .nil => exact ⟨z, rfl, rfl, hl, k _ H' (.py (.str _)) Ex.refl gd'.g (.str _) h⟩
@[simp] def gTSplit : D → List D → (D → Prop) → Prop
  | .py (.str a), [.py (.str b)], Q => (b.length == 0) = false ∧ a.length + 2 ≤ 16777216 ∧ Q (.py (.list ((Txt.split a b).map PyData.str)))
  | _, _, _ => False
theorem mx_split {X : Cx} {b : Bg} : MetX X b (RN b) "split" isS gTSplit := fun Z H x d gd rx kd => by
  obtain ⟨z, rfl⟩ := isS_ex kd
  obtain rfl := rx.str
  refine ⟨_, ⟨"str", _, PySem.F.plainAttrs_str, PySem.F.slot_str_split, PySem.F.type_str_split, mt_split, ty_str z⟩, fun H' xs ds Q Qd _ gd' _ rs h k => ?_⟩
  match ds, h, rs with
  | [.py (.str c)], ⟨h1, h2, h⟩, .cons r .nil =>
    obtain rfl := r.str
    exact ⟨z, c, rfl, rfl, h1, by rw [szl]; exact h2, fun p hp => k _ _ (.py (.list _)) (Ex.new hp) (gd'.new hp) ⟨p, rfl, hp, _, upd_same, (Rqs.of_strs _).up' hp⟩ h⟩
end VL
set_option Elab.async false
set_option linter.all false
set_option maxRecDepth 100000
set_option maxHeartbeats 4000000
namespace VL
open PySem PySem.Spec PyProof.Rows L2 HT
/-! ### index by plain data -/
/-- the first place of an equal one -/
def ixOf : List PyData → PyData → Option Nat
  | [], _ => none
  | z :: zs, d => if z.eqv d = true then some 0 else (ixOf zs d).map (· + 1)
theorem ixOf_some : ∀ {ds : List PyData} {d : PyData} {j : Nat}, ixOf ds d = some j → ∃ z, ds[j]? = some z ∧ z.eqv d = true ∧ ∀ (m : Nat) (z' : PyData), m < j → ds[m]? = some z' → z'.eqv d = false
  | [], _, _, h => by cases h
  | z :: zs, d, j, h => by
    unfold ixOf at h
    split at h
    · rename_i c
      cases h
      exact ⟨z, rfl, c, fun m z' hm => by omega⟩
    · rename_i c
      cases e : ixOf zs d with
      | none => rw [e] at h; cases h
      | some i =>
        rw [e] at h
        cases h
        obtain ⟨y, h1, h2, h3⟩ := ixOf_some e
        refine ⟨y, by simpa using h1, h2, fun m z' hm hz => ?_⟩
        have hm' : m < i + 1 := hm
        cases m with
        | zero => simp at hz; subst hz; simpa using c
        | succ m => exact h3 m z' (by omega) (by simpa using hz)
section
variable {X : Cx}
def rIxP (tup : Bool) : V → List V → Hp → VK → Prop := fun x xs H Q => ∃ (a : Addr) (y : V) (d : PyData) (ds : List PyData) (j : Nat), x = .ref a ∧ xs = [y] ∧ Rq nz H (.ref a) (if tup = true then .tuple ds else .list ds) ∧ Rq nz H y d ∧ PyData.plainAll ds = true ∧ d.plain = true ∧
  (d.depth ≤ 60 ∨ PyData.depthAll ds ≤ 60) ∧ ixOf ds d = some j ∧ Q (.int (j : Nat)) H
theorem ix_at {s : Shared} {its : List Value} {ds : List PyData} {as : List Addr} {d : PyData} {j : Nat} (h4 : ReadsAll s.heap its ds as) (hp : PyData.plainAll ds = true) (hj : ixOf ds d = some j) :
    ∃ hjl : j < its.toArray.size, PyData.eqv (SeqAt.readOf s.heap its.toArray[j]) d = true ∧ ∀ m (hm : m < its.toArray.size), m < j → PyData.eqv (SeqAt.readOf s.heap its.toArray[m]) d = false := by
  obtain ⟨z, hz, h1, h2⟩ := ixOf_some hj
  have hn : its.length = ds.length := SeqAt.ReadsAll.length ds its as h4
  have hmap : its.map (SeqAt.readOf s.heap) = ds := SeqAt.readsAll_map_plain ds its as hp h4
  have at_ : ∀ (m : Nat) (hm : m < its.toArray.size) (z' : PyData), ds[m]? = some z' → SeqAt.readOf s.heap its.toArray[m] = z' := by
    intro m hm z' hz'
    have hml : m < its.length := by simpa using hm
    rw [← hmap, List.getElem?_map, List.getElem?_eq_getElem hml] at hz'
    have e1 : SeqAt.readOf s.heap its[m] = z' := Option.some.inj (show some (SeqAt.readOf s.heap its[m]) = some z' from hz')
    simpa using e1
  have hjd : j < ds.length := (List.getElem?_eq_some_iff.mp hz).1
  have hjl : j < its.toArray.size := by simp; omega
  refine ⟨hjl, by rw [at_ j hjl z hz]; exact h1, fun m hm hmj => ?_⟩
  have hz' : ds[m]? = some ds[m] := List.getElem?_eq_getElem (by omega)
  rw [at_ m hm _ hz']
  exact h2 m _ hmj hz'
theorem mt_ixL (hu : X.A.units + 65 < cLine) : MtR X "list.index" (rIxP false) := by
  intro pins s σ H x xs v us Q I rx rxs ⟨a, y, d, ds, j, ex, exs, hl, hy, pl, pd, hd, hj, q⟩
  subst ex exs
  cases rx
  obtain ⟨uy, rfl, ry⟩ := vals1 rxs
  obtain ⟨bs, r1, _⟩ := hy.reads I _ ry
  have hroom : X.A.units + 1 + min (PyData.depthAll ds) d.depth < cLine := by omega
  have hl : Rq nz H (.ref a) (.list ds) := hl
  cases hl with
  | lst e n ha =>
    obtain ⟨its, rv, ⟨⟨cls, dd, data, sls⟩, n, ho, hc, hdn, hdt⟩, hlen⟩ := I.list (SqL.of e)
    simp only at hc hdt
    subst hc hdt
    obtain ⟨as, h4, _⟩ := ha.reads I its rv
    obtain ⟨hjl, h1, h2⟩ := ix_at h4 pl hj
    have hsl := sizeLine_eq
    have hvl := rv.length
    have hjz : j < its.length := by simpa using hjl
    refine call_meets PySem.F.slot_list_index ⟨_, ho, rfl⟩ PySem.F.entry_list_index (PySem.F.args_list_index_2 _ _)
      (SeqAt.list_indexAt a its.toArray n dd sls uy (fun u => PyData.eqv (SeqAt.readOf s.heap u) d) j hjl (by omega) h1 h2) ⟨ho, SeqAt.items_plain (vs := its.toArray) (show ReadsAll s.heap its.toArray.toList ds as from h4) r1 pl pd hroom, ?_⟩
    exact ⟨.int (j : Nat), H, I.tok _, ⟨_, rfl⟩, q⟩
theorem mt_ixT (hu : X.A.units + 65 < cLine) : MtR X "tuple.index" (rIxP true) := by
  intro pins s σ H x xs v us Q I rx rxs ⟨a, y, d, ds, j, ex, exs, hl, hy, pl, pd, hd, hj, q⟩
  subst ex exs
  cases rx
  obtain ⟨uy, rfl, ry⟩ := vals1 rxs
  obtain ⟨bs, r1, _⟩ := hy.reads I _ ry
  have hroom : X.A.units + 1 + min (PyData.depthAll ds) d.depth < cLine := by omega
  have hl : Rq nz H (.ref a) (.tuple ds) := hl
  cases hl with
  | tup e _ n ha =>
    obtain ⟨its, rv, ⟨⟨cls, dd, data, sls⟩, ho, hc, n, hdt⟩, hlen⟩ := I.tuple (SqT.th e)
    simp only at hc hdt
    subst hc hdt
    obtain ⟨as, h4, _⟩ := ha.reads I its rv
    obtain ⟨hjl, h1, h2⟩ := ix_at h4 pl hj
    refine call_meets PySem.F.slot_tuple_index ⟨_, ho, rfl⟩ PySem.F.entry_tuple_index (PySem.F.args_tuple_index_2 _ _)
      (TI.tuple_indexAt a its.toArray n dd sls uy (fun u => PyData.eqv (SeqAt.readOf s.heap u) d) j hjl h1 h2) ⟨ho, SeqAt.items_plain (vs := its.toArray) (show ReadsAll s.heap its.toArray.toList ds as from h4) r1 pl pd hroom, ?_⟩
    exact ⟨.int (j : Nat), H, I.tok _, ⟨_, rfl⟩, q⟩
end
@[simp] def isSq : D → Prop
  | .py (.list _) => True
  | .py (.tuple _) => True
  | _ => False
@[simp] def gIndex : D → List D → (D → Prop) → Prop
  | .py (.list xs), [.py d], Q => PyData.plainAll xs = true ∧ d.plain = true ∧ (d.depth ≤ 60 ∨ PyData.depthAll xs ≤ 60) ∧ ∃ j, ixOf xs d = some j ∧ Q (.py (.int (j : Nat)))
  | .py (.tuple xs), [.py d], Q => PyData.plainAll xs = true ∧ d.plain = true ∧ (d.depth ≤ 60 ∨ PyData.depthAll xs ≤ 60) ∧ ∃ j, ixOf xs d = some j ∧ Q (.py (.int (j : Nat)))
  | _, _, _ => False
theorem mx_index {X : Cx} {b : Bg} (hu : X.A.units + 65 < cLine) : MetX X b (RE b) "index" isSq gIndex := fun Z H x d gd rx kd => by
  match d, kd, rx with
  | .py (.list ps), _, rx =>
    obtain ⟨a, us, rfl, ha, _⟩ := rx.list
    refine ⟨_, ⟨"list", _, PySem.F.plainAttrs_list, PySem.F.slot_list_index, PySem.F.type_list_index, mt_ixL hu, ty_lst ha⟩, fun H' xs ds Q Qd _ gd' rx' rs h k => ?_⟩
    match ds, h, rs with
    | [.py c], ⟨h1, h2, h3, j, h4, h⟩, .cons r .nil =>
      exact ⟨a, _, c, ps, j, rfl, rfl, rx'.q, r.q, h1, h2, h3, h4, k _ H' (.py (.int _)) Ex.refl gd'.g (.int _) h⟩
  | .py (.tuple ps), _, rx =>
    obtain ⟨a, o, us, rfl, ha, hd, _, _⟩ := rx.tuple
    refine ⟨_, ⟨"tuple", _, PySem.F.plainAttrs_tuple, PySem.F.slot_tuple_index, PySem.F.type_tuple_index, mt_ixT hu, ty_tup ha hd⟩, fun H' xs ds Q Qd _ gd' rx' rs h k => ?_⟩
    match ds, h, rs with
    | [.py c], ⟨h1, h2, h3, j, h4, h⟩, .cons r .nil =>
      exact ⟨a, _, c, ps, j, rfl, rfl, rx'.q, r.q, h1, h2, h3, h4, k _ H' (.py (.int _)) Ex.refl gd'.g (.int _) h⟩
/-- how often: of a text, of a list of ints -/
@[simp] def isCt : D → Prop
  | .py (.str _) => True
  | .py (.list _) => True
  | _ => False
@[simp] def gCount : D → List D → (D → Prop) → Prop
  | .py (.str a), [.py (.str b)], Q => Q (.py (.int (Txt.count a b)))
  | .py (.list xs), [.py (.int k)], Q => ∃ ns, allI xs = some ns ∧ Q (.py (.int (ns.count k : Nat)))
  | _, _, _ => False
theorem mx_cnt {X : Cx} {b : Bg} : MetX X b (RE b) "count" isCt gCount := fun Z H x d gd rx kd => by
  match d, kd, rx with
  | .py (.str z), _, rx =>
    obtain ⟨r, al, h⟩ := mx_count Z H x (.py (.str z)) gd rx trivial
    exact ⟨r, al, fun H' xs ds Q Qd x1 gd' rx' rs g k => h H' xs ds Q Qd x1 gd' rx' rs (by
      match ds, g with
      | [.py (.str c)], g => exact g) k⟩
  | .py (.list ps), _, rx =>
    obtain ⟨a, us, rfl, ha, _⟩ := rx.list
    refine ⟨_, ⟨"list", _, PySem.F.plainAttrs_list, PySem.F.slot_list_count, PySem.F.type_list_count, mt_lcount, ty_lst ha⟩, fun H' xs ds Q Qd _ gd' rx' rs h k => ?_⟩
    match ds, h, rs with
    | [.py (.int c)], ⟨ns, e, h⟩, .cons r .nil =>
      obtain rfl := r.int
      obtain ⟨a', us', ea, ha', qa'⟩ := rx'.list
      cases ea
      rw [allI_of e] at qa'
      have eu := qa'.ints
      subst eu
      exact ⟨a, ns, c, rfl, rfl, SqL.of ha', k _ H' (.py (.int _)) Ex.refl gd'.g (.int _) h⟩
end VL
set_option Elab.async false
set_option linter.all false
set_option maxRecDepth 100000
set_option maxHeartbeats 4000000
namespace VL
open PySem PySem.Spec PyProof.Rows L2 HT
/-! ### text * int, text[::-1] -/
def repS (z : Str) (k : Int) : Str := mkS (List.replicate k.toNat (sl z)).flatten
theorem mkS_sl (z : Str) : mkS (sl z) = z := by cases z; simp [mkS, sl]
@[simp] theorem sl_mkS (l : List Nat) : sl (mkS l) = l := by simp [mkS, sl]
@[simp] theorem len_mkS (l : List Nat) : (mkS l).length = l.length := by simp [mkS, Str.length]
theorem slen (z : Str) : (sl z).length = z.length := by simp [sl, Str.length]
def rRepS : R2 := fun x y H Q => ∃ z k, x = .str z ∧ y = .int k ∧ -(2 ^ 63) ≤ k ∧ k < 2 ^ 63 ∧ z.length * k.toNat ≤ 16777216 ∧ Q (.str (repS z k)) H
theorem foldl_app (n : Nat) (a b : Array Nat) : (List.replicate n a).foldl (· ++ ·) b = (b.toList ++ (List.replicate n a.toList).flatten).toArray := by
  induction n generalizing b with
  | zero => simp
  | succ n ih => rw [List.replicate_succ, List.foldl_cons, ih, List.replicate_succ, List.flatten_cons]; simp
theorem op_repS {X : Cx} : OpR X (binaryOp .Mult) rRepS := by
  intro pins s σ H x y v u Q I rx ry ⟨z, k, ex, ey, h1, h2, h3, q⟩
  subst ex ey
  obtain ⟨t, rfl⟩ := rx
  obtain ⟨t2, rfl⟩ := ry
  refine P.mul_str (by rw [decide_eq_false (by omega), decide_eq_false (by omega)]; rfl) (fun c c2 => ?_) (fun c c2 => ?_) ?_
  · intro hgt
    have kp : 0 < k := by omega
    have hz : (z.length : Int) * k ≤ 16777216 := by
      have e : ((z.length * k.toNat : Nat) : Int) ≤ 16777216 := by omega
      have e2 : ((k.toNat : Nat) : Int) = k := by omega
      rw [Int.natCast_mul, e2] at e
      exact e
    have h5 : ((2 ^ 63 - 1 : Int) / k + 1) * k > 2 ^ 63 - 1 := by
      have := Int.lt_ediv_add_one_mul_self (2 ^ 63 - 1) kp
      exact this
    have h6 : ((2 ^ 63 - 1 : Int) / k + 1) * k ≤ (z.length : Int) * k := Int.mul_le_mul_of_nonneg_right (by omega) (by omega)
    omega
  · unfold Builtin.Str.tooLong
    rw [sizeLine_eq]
    exact decide_eq_false (by omega)
  · by_cases c : k < 1
    · rw [if_pos c]
      refine ⟨by show 0 ≤ sizeLine; omega, .str Str.empty, H, I.tok _, ⟨_, rfl⟩, ?_⟩
      have e : repS z k = Str.empty := by
        unfold repS
        have : k.toNat = 0 := by omega
        rw [this]
        rfl
      rw [← e]; exact q
    · rw [if_neg c]
      split
      · rename_i c2
        have e : repS z k = z := by
          unfold repS
          rcases Bool.or_eq_true_iff.mp c2 with c3 | c3
          · have : k = 1 := eq_of_beq c3
            subst this
            show mkS (List.replicate 1 (sl z)).flatten = z
            simp [mkS_sl]
          · have hz : (sl z).length = 0 := by rw [slen]; exact eq_of_beq c3
            have hz' : sl z = [] := List.length_eq_zero_iff.mp hz
            rw [hz']
            have : (List.replicate k.toNat ([] : List Nat)).flatten = [] := by simp
            rw [this, ← hz', mkS_sl]
        refine ⟨.str z, H, I, ⟨_, rfl⟩, ?_⟩
        rw [← e]; exact q
      · refine ⟨?_, .str (repS z k), H, ?_⟩
        · show Array.size _ ≤ sizeLine
          rw [foldl_app, List.size_toArray]
          simp
          rw [Nat.mul_comm]
          have : z.cps.size = z.length := rfl
          rw [this]
          exact h3
        · have e : (⟨(List.replicate k.toNat z.cps).foldl (· ++ ·) #[]⟩ : Str) = repS z k := by
            rw [foldl_app]; rfl
          rw [e]
          exact ⟨I.tok _, ⟨_, rfl⟩, q⟩
def rBkS : V → Hp → VK → Prop := fun x H Q => ∃ z, x = .str z ∧ z.length ≤ 16777216 ∧ Q (.str (mkS (sl z).reverse)) H
theorem range_down (n : Nat) : Builtin.Str.strSliceIndices none none (-1) n = (List.range n).reverse := by
  have e : Builtin.Str.strSliceIndices none none (-1) n = sliceRange ((n : Int) - 1) (-1) (-1) := rfl
  rw [e]
  unfold sliceRange
  rw [if_neg (by omega)]
  dsimp only
  have c : (if (n : Int) - 1 > -1 then ((n : Int) - 1 - -1 - -1 - 1) / (- -1) else 0).toNat = n := by
    split
    · rw [Int.neg_neg, Int.ediv_one]; omega
    · omega
  rw [c, ← PySem.W.krv_range]
  refine List.map_congr_left fun m hm => ?_
  have := List.mem_range.mp hm
  omega
theorem pick_down (a : Array Nat) : ((List.range a.size).reverse.filterMap fun (i : Nat) => a[i]?) = a.toList.reverse := by
  rw [List.filterMap_reverse]
  congr 1
  have : (fun (i : Nat) => a[i]?) = (fun (i : Nat) => a.toList[i]?) := by funext i; simp
  rw [this]
  have h : ∀ (l : List Nat), (List.range l.length).filterMap (fun (i : Nat) => l[i]?) = l := by
    intro l
    apply List.ext_getElem?
    intro i
    have : (List.range l.length).filterMap (fun (i : Nat) => l[i]?) = l := by
      induction l with
      | nil => rfl
      | cons x l ih =>
        rw [List.length_cons, List.range_succ_eq_map, List.filterMap_cons, List.filterMap_map]
        simp
        exact ih
    rw [this]
  have := h a.toList
  rwa [Array.length_toList] at this
theorem bk_str {X : Cx} : BkR X rBkS := by
  intro pins s σ H x v tk sl' Q I rx hs ⟨z, ex, hz, q⟩
  subst ex
  obtain ⟨t, rfl⟩ := rx
  refine ⟨"str", _, F.slot_str_getitem.lookup, typeIs_str _ _ _, wpAny_getItem_str_slice (l := none) (u := none) (st := some (-1, tk)) hs rfl ?_⟩
  have e : (((slicePicked z none none (some (-1, tk))).filterMap (z.cps[·]?)).toArray : Array Nat) = (sl z).reverse.toArray := by
    unfold slicePicked
    show ((Builtin.Str.strSliceIndices none none (-1) z.length).filterMap _).toArray = _
    rw [range_down]
    exact congrArg List.toArray (pick_down z.cps)
  unfold sliceMade
  rw [if_neg (by simp), e]
  refine ⟨?_, .str (mkS (sl z).reverse), H, I.tok _, ⟨_, rfl⟩, q⟩
  show Array.size _ ≤ sizeLine
  rw [List.size_toArray, List.length_reverse, slen, sizeLine_eq]
  exact hz
section
variable {X : Cx} {b : Bg} {W : WX} {e e1 e2 st : Expr} {t t1 t2 : VT} {tl : VO} {p2 pos : Pos}
@[simp] def gBkA : D → (D → Prop) → Prop
  | .py (.list xs), Q => Q (.py (.list xs.reverse))
  | .py (.tuple xs), Q => Q (.py (.tuple xs.reverse))
  | .py (.str z), Q => z.length ≤ 16777216 ∧ Q (.py (.str (mkS (sl z).reverse)))
  | _, _ => False
@[simp] def vBkA (t : VT) (tl : VO) : VT := fun ρ Q E => t ρ (fun x => tl ρ (fun k => k = some (-1) ∧ gBkA x Q) E) E
theorem ve_backA (h : VX X b W e t) (h1 : VPt X b W (some st) tl) : VE X b W (.Subscript e (.Slice none none (some st) p2) pos) (vBkA t tl) :=
  pe_mono (pe_back ((bk_list.or bk_tup).or bk_str) h h1) fun σ H Q ⟨Zo, Z, ρ, Qd, Ed, v, q, l, m⟩ => ⟨Zo, Z, ρ, _, Ed, v, q, fun x H1 d x1 g1 r1 q1 => ⟨Zo, Z, ρ, _, Ed, v.ex x1 g1, q1, fun k H2 x2 g2 ⟨ek, q2⟩ => by
    refine ⟨ek, ?_⟩
    have v2 := (v.ex x1 g1).ex x2 g2
    have r2 := r1.ex ((v.ex x1 g1).keep x2) x2
    match d, q2, r2 with
    | .py (.list xs), q2, r2 =>
      obtain ⟨a, us, rfl, ha, qa⟩ := r2.list
      exact .inl (.inl ⟨a, us, rfl, SqL.of ha, fun p hp => l _ _ (.py (.list xs.reverse)) ((x1.trans x2).trans (Ex.new hp)) (Bg.new g2 hp) (Rq.lst upd_same (v2.fresh hp) (qa.reverse.up hp)) q2⟩)
    | .py (.tuple xs), q2, r2 =>
      obtain ⟨a, oa, us, rfl, ha, da, na, qa⟩ := r2.tuple
      exact .inl (.inr ⟨a, us, rfl, SqT.th ha, fun p o hp ho => l _ _ (.py (.tuple xs.reverse)) ((x1.trans x2).trans (Ex.new hp)) (Bg.new g2 hp) (Rq.tup upd_same ho (v2.fresh hp) (qa.reverse.up hp)) q2⟩)
    | .py (.str z), ⟨hz, q2⟩, r2 =>
      obtain rfl := r2.str
      exact .inr ⟨z, rfl, hz, l _ H2 (.py (.str _)) (x1.trans x2) g2 (.str _) q2⟩,
    fun c z H2 er x2 g2 r2 q2 => m c z H2 er (x1.trans x2) g2 r2 q2⟩, m⟩
/-- products, of a text too -/
@[simp] def gMulA : D → D → (D → Prop) → Prop
  | .py (.int i), .py (.int j), Q => CMul i j ∧ Q (.py (.int (i * j)))
  | .py (.list xs), .py (.int k), Q => (-(2 ^ 63) ≤ k ∧ k < 2 ^ 63 ∧ xs.length * k.toNat ≤ sizeLine) ∧ Q (.py (.list (List.replicate k.toNat xs).flatten))
  | .py (.tuple xs), .py (.int k), Q => (xs ≠ [] ∧ 2 ≤ k ∧ k ≤ 1000 ∧ xs.length ≤ 1000) ∧ Q (.py (.tuple (List.replicate k.toNat xs).flatten))
  | .py (.str z), .py (.int k), Q => (-(2 ^ 63) ≤ k ∧ k < 2 ^ 63 ∧ z.length * k.toNat ≤ 16777216) ∧ Q (.py (.str (repS z k)))
  | _, _, _ => False
theorem rd_mulA : OpD b (RE b) (fun x y H Q => (fun x y H Q => rI CMul (fun i j => .int (i * j)) x y H Q ∨ (fun x y H Q => rRep x y H Q ∨ rRepF X.K x y H Q) x y H Q) x y H Q ∨ rRepS x y H Q) gMulA := by
  intro Z H x y dx dy Q Qd gd rx ry h k
  match dx, dy, h, rx, ry with
  | .py (.int i), .py (.int j), h, rx, ry => exact .inl (rd_mul Z H x y (.py (.int i)) (.py (.int j)) Q Qd gd rx ry h k)
  | .py (.list xs), .py (.int n), h, rx, ry => exact .inl (rd_mul Z H x y (.py (.list xs)) (.py (.int n)) Q Qd gd rx ry h k)
  | .py (.tuple xs), .py (.int n), h, rx, ry => exact .inl (rd_mul Z H x y (.py (.tuple xs)) (.py (.int n)) Q Qd gd rx ry h k)
  | .py (.str z), .py (.int n), ⟨⟨h1, h2, h3⟩, h⟩, rx, ry =>
    obtain rfl := rx.str
    obtain rfl := ry.int
    exact .inr ⟨z, n, rfl, rfl, h1, h2, h3, k _ H (.py (.str _)) Ex.refl gd.g (.str _) h⟩
theorem ve_mulA (h1 : VX X b W e1 t1) (h2 : VX X b W e2 t2) : VE X b W (.BinOp e1 .Mult e2 pos) (vBin gMulA t1 t2) := ve_op (OpR.or (OpR.or op_mul (OpR.or op_rep op_repF)) op_repS) rd_mulA h1 h2
end
/-! ### name op= value -/
@[simp] def gAugAdd : D → D → (D → Prop) → Prop
  | .py (.int i), .py (.int j), Q => Q (.py (.int (i + j)))
  | .py (.str x), .py (.str y), Q => x.length + y.length ≤ 16777216 ∧ Q (.py (.str (x ++ y)))
  | _, _, _ => False
@[simp] def gAugSub : D → D → (D → Prop) → Prop
  | .py (.int i), .py (.int j), Q => Q (.py (.int (i - j)))
  | _, _, _ => False
@[simp] def sAugA (i : Nat) (g : D → D → (D → Prop) → Prop) (t : VT) : VS := fun ρ De => ∃ d0, ρ[i]? = some (.shr d0) ∧ t ρ (fun d => g d0 d fun z => De.nx (ρ.set i (.shr z))) (De.ex ρ)
section
variable {X : Cx} {b : Bg} {W : WX} {e : Expr} {t : VT} {pos pos' : Pos} {i : Nat} {x : Str}
theorem ip_addA : PIp X .Add (fun x y H Q => ipI (fun i j => i + j) x y H Q ∨ rAddS x y H Q) := fun pins s σ H x y v u Q I r1 r2 h => h.elim (ip_add pins s σ H x y v u Q I r1 r2) (in_addS pins s σ H x y v u Q I r1 r2)
theorem vs_augG {op : Operator} {ti : TIp} {g : D → D → (D → Prop) → Prop} (hp : PIp X op ti) (hg : ∀ (Z : Addr → Prop) (H : Hp) (u v : V) (d0 d : D) (Q : VK) (Qd : D → Prop), Rp b Z H u d0 → Rp b Z H v d → g d0 d Qd → (∀ w z, Rp b Z H w z → Qd z → Q w H) → ti u v H Q)
    (hN : X.N.Nodup) (hi : X.N[i]? = some x) (hx : Loc X.env.scope x) (he : VE X b W e t) (hf : X.fn x = true ∨ X.env.scope.names.lookup x = some .local := by first | exact .inl rfl | exact .inr rfl | assumption) :
    VSt X b W (.AugAssign (.Name x pos') op e pos) (sAugA i g t) :=
  ps_mono (ps_aug hN hi hx he hp hf) fun Dn σ H ⟨H0, M, Zo, Z, ρ, De, f, ⟨d0, e0, q⟩, l⟩ => by
    obtain ⟨u, hu, ru⟩ := f.v.shr i d0 e0
    refine ⟨u, hu, Zo, Z, ρ, _, _, f.v, q, fun v H1 d x1 g1 r1 q1 => ?_, l.er f⟩
    have f1 := f.ex x1 g1
    exact hg Z H1 u v d0 d _ _ (f.v.rp x1 ru) r1 q1 fun w z rz qz => l.nx _ _ H1 _ (f1.set (List.getElem?_eq_some_iff.mp e0).1 rz) qz
theorem vs_augAdd (hN : X.N.Nodup) (hi : X.N[i]? = some x) (hx : Loc X.env.scope x) (he : VE X b W e t) (hf : X.fn x = true ∨ X.env.scope.names.lookup x = some .local := by first | exact .inl rfl | exact .inr rfl | assumption) :
    VSt X b W (.AugAssign (.Name x pos') .Add e pos) (sAugA i gAugAdd t) :=
  vs_augG ip_addA (fun Z H u v d0 d Q Qd r1 r2 g k => by
    match d0, d, g, r1, r2 with
    | .py (.int i), .py (.int j), g, r1, r2 =>
      obtain rfl := Rb.int (b := b) (Z := Z) (H := H) (.inl r1)
      obtain rfl := Rb.int (b := b) (Z := Z) (H := H) (.inl r2)
      exact .inl ⟨i, j, rfl, rfl, k _ (.py (.int _)) (Rq.int _) g⟩
    | .py (.str i), .py (.str j), ⟨hl, g⟩, r1, r2 =>
      obtain rfl := Rb.str (b := b) (Z := Z) (H := H) (.inl r1)
      obtain rfl := Rb.str (b := b) (Z := Z) (H := H) (.inl r2)
      exact .inr ⟨i, j, rfl, rfl, by rw [sizeLine_eq]; exact hl, k _ (.py (.str _)) (Rq.str _) g⟩) hN hi hx he hf
theorem vs_augSub (hN : X.N.Nodup) (hi : X.N[i]? = some x) (hx : Loc X.env.scope x) (he : VE X b W e t) (hf : X.fn x = true ∨ X.env.scope.names.lookup x = some .local := by first | exact .inl rfl | exact .inr rfl | assumption) :
    VSt X b W (.AugAssign (.Name x pos') .Sub e pos) (sAugA i gAugSub t) :=
  vs_augG ip_sub (fun Z H u v d0 d Q Qd r1 r2 g k => by
    match d0, d, g, r1, r2 with
    | .py (.int i), .py (.int j), g, r1, r2 =>
      obtain rfl := Rb.int (b := b) (Z := Z) (H := H) (.inl r1)
      obtain rfl := Rb.int (b := b) (Z := Z) (H := H) (.inl r2)
      exact ⟨i, j, rfl, rfl, k _ (.py (.int _)) (Rq.int _) g⟩) hN hi hx he hf
/-- xs[i] = v, an owned list -/
def setAt (xs : List PyData) (k : Int) (p : PyData) : Option (List PyData) := (ixN xs.length k).map fun j => xs.set j p
@[simp] def sStoL (i : Nat) (ty tv : VT) : VS := fun ρ De => ∃ xs, ρ[i]? = some (.own (.py (.list xs))) ∧ tv ρ (fun v => ∃ p, v = .py p ∧ ty ρ (fun y => ∃ k, y = .py (.int k) ∧ ∃ ys, setAt xs k p = some ys ∧ De.nx (ρ.set i (.own (.py (.list ys))))) (De.ex ρ)) (De.ex ρ)
theorem vs_stoL {o ei : Expr} {ty tv : VT} (ho : PE X o (tVar i)) (hi : VE X b W ei ty) (hv : VE X b W e tv)
    (ha : ∀ v, assign (.Subscript o ei pos') X.env v = (do
      let ov ← holding [v] (eval o X.env)
      let iv ← holding [v, ov] (eval ei X.env)
      standAt pos'
      holding [v, ov, iv] (setItem ov iv v)
      release [v, ov, iv] []) := by intro _; rfl)
    (hs : swapsWithSole [.Subscript o ei pos'] e pos.line X.env = pure false := by rfl) (hw : swappedStores [.Subscript o ei pos'] e X.env = pure none := by rfl)
    (h1 : (assignEach [.Subscript o ei pos'] X.env).map (·.2) = [assign (.Subscript o ei pos') X.env] := by rfl) : VSt X b W (.Assign [.Subscript o ei pos'] e pos) (sStoL i ty tv) :=
  ps_mono (ps_asg hv (pg_sub ho hi set_list ha) hs hw h1) fun Dn σ H ⟨H0, M, Zo, Z, ρ, De, f, ⟨xs, e1, q⟩, l⟩ => by
    refine ⟨Zo, Z, ρ, _, _, f.v, q, fun v H1 dv x1 g1 r1 ⟨p, ep, q1⟩ => ?_, l.er f⟩
    subst ep
    have f1 := f.ex x1 g1
    obtain ⟨a, h1, h2, h3, h4⟩ := f1.v.own i _ e1
    refine ⟨.ref a, h1, Zo, Z, ρ, _, _, f1.v, q1, fun y H2 dy x2 g2 r2 ⟨k, ey, ys, es, q2⟩ => ?_, l.er f1⟩
    subst ey
    obtain rfl := Rb.int (b := b) (Z := Z) (H := H2) (.inl r2)
    have f2 := f1.ex x2 g2
    obtain ⟨a', h1', h2', h3', xs', h4', h5'⟩ := f2.v.own i _ e1
    rw [h1] at h1'; cases h1'
    unfold setAt at es
    cases ej : ixN xs.length k with
    | none => rw [ej] at es; cases es
    | some j =>
      rw [ej] at es; cases es
      refine ⟨a, xs', k, j, rfl, rfl, h4', by rw [h5'.length]; exact ej, l.nx _ _ _ _ (f2.mut (d' := .py (.list (xs.set j p))) e1 h1 ⟨_, upd_same, ?_⟩) q2⟩
      exact (h5'.set (f1.v.rq x2 r1) j).mono (fun c z => .inl z) fun c u e n => by
        rw [upd_ne (fun w => n (by rw [w]; exact h2))]
        exact e
end
end VL
set_option Elab.async false
set_option linter.all false
set_option maxRecDepth 100000
set_option maxHeartbeats 4000000
namespace VL
open PySem PySem.Spec PyProof.Rows L2 HT TL
theorem hu65 {A : Around} {k : Nat} (r : Room k A) : A.units + 65 < cLine := by have := r.un; omega
/-! ### texts as lists of signs -/
@[simp] theorem mkS_inj {a b : List Nat} : mkS a = mkS b ↔ a = b := ⟨fun e => by have := congrArg sl e; simpa using this, fun e => by rw [e]⟩
@[simp] theorem mkS_app (a b : List Nat) : mkS a ++ mkS b = mkS (a ++ b) := ext_tl (by rw [tl_append])
@[simp] theorem beq_mkS (a b : List Nat) : (mkS a == mkS b) = (a == b) := by
  by_cases h : a = b
  · subst h; simp
  · have h2 : mkS a ≠ mkS b := fun e => h (mkS_inj.mp e)
    rw [beq_eq_false_iff_ne.mpr h2, beq_eq_false_iff_ne.mpr h]
@[simp] theorem repS_mkS (l : List Nat) (k : Int) : repS (mkS l) k = mkS (List.replicate k.toNat l).flatten := rfl
@[simp] theorem cps_mkS (l : List Nat) : (mkS l).cps = l.toArray := rfl
def encC (c : Nat) : PyData := .str (mkS [c])
@[simp] theorem encC_eq (c : Nat) : encC c = .str (mkS [c]) := rfl
theorem signsD_mkS (l : List Nat) : signsD (mkS l) = l.map encC := rfl
@[simp] theorem str_ab (a b : Str) : (PyData.str a = PyData.str b) ↔ a = b := ⟨fun e => by injection e, fun e => by rw [e]⟩
open Builtin.Str in
theorem occ_step (z : Str) (c k lim : Nat) (st : Array Nat × Nat) (h1 : st.2 ≤ k) (h2 : st.1.size < lim) : StrLaws.occBody z ⟨#[c]⟩ z.length lim k st = if (sl z)[k]? = some c then pure (ForInStep.yield (st.1.push k, k + 1)) else pure (ForInStep.yield (st.1, st.2)) := by
  unfold StrLaws.occBody
  have e := StrLaws.subAt_one z c k
  by_cases h : (sl z)[k]? = some c
  · have h' := e.mpr h
    rw [if_pos ⟨⟨⟨h2, h1⟩, h'.1⟩, h'.2⟩, if_pos h]
    rfl
  · rw [if_neg (fun q => h (e.mp ⟨q.1.2, q.2⟩)), if_neg h]
theorem occ_sign (z : Str) (c : Nat) : ∀ (n k free : Nat) (acc : Array Nat), free ≤ k → acc.size ≤ k → k + n = z.length + 1 →
    (forIn (List.range' k n) (acc, free) (StrLaws.occBody z ⟨#[c]⟩ z.length (z.length + 1))).run.fst.toList.length = acc.size + ((sl z).drop k).count c
  | 0, k, free, acc, h1, h2, h3 => by
    have : (sl z).drop k = [] := List.drop_eq_nil_of_le (by rw [slen]; omega)
    rw [this]; simp
  | n + 1, k, free, acc, h1, h2, h3 => by
    rw [List.range'_succ, List.forIn_cons, occ_step z c k _ (acc, free) h1 (by show acc.size < _; omega)]
    by_cases hk : k < z.length
    · have hk' : k < (sl z).length := by rw [slen]; exact hk
      rw [List.drop_eq_getElem_cons hk', List.getElem?_eq_getElem hk']
      by_cases hc : (sl z)[k] = c
      · rw [if_pos (by rw [hc]), hc, List.count_cons_self]
        have := occ_sign z c n (k + 1) (k + 1) (acc.push k) (by omega) (by simp; omega) (by omega)
        rw [Array.size_push] at this
        simp only [pure_bind]
        omega
      · rw [if_neg (by simpa using hc), List.count_cons_of_ne (by simpa using hc)]
        exact occ_sign z c n (k + 1) free acc (by omega) (by omega) (by omega)
    · have e : (sl z).drop k = [] := List.drop_eq_nil_of_le (by rw [slen]; omega)
      rw [if_neg (by rw [List.getElem?_eq_none (by rw [slen]; omega)]; simp), e]
      have := occ_sign z c n (k + 1) free acc (by omega) (by omega) (by omega)
      have e2 : (sl z).drop (k + 1) = [] := List.drop_eq_nil_of_le (by rw [slen]; omega)
      rw [e2] at this
      exact this
theorem count_sign (z : Str) (c : Nat) : Txt.count z (mkS [c]) = ((sl z).count c : Nat) := by
  unfold Txt.count
  rw [StrLaws.occ_eq]
  have := occ_sign z c (z.length + 1 - 0) 0 0 #[] (by omega) (by simp) (by omega)
  simp at this ⊢
  exact_mod_cast this
@[simp] theorem count_mkS (l : List Nat) (c : Nat) : Txt.count (mkS l) (mkS [c]) = (l.count c : Nat) := by rw [count_sign, sl_mkS]
theorem join0 (ls : List (List Nat)) : Txt.join (mkS []) (ls.map mkS) = mkS ls.flatten := by
  rw [join_eq]
  refine ext_tl ?_
  rw [tl_join]
  have : (ls.map mkS).map tl = ls := by rw [List.map_map]; exact List.map_id ls
  rw [this]
  show joinL [] ls = ls.flatten
  have h : ∀ ls : List (List Nat), joinL [] ls = ls.flatten := by
    intro ls
    induction ls with
    | nil => rfl
    | cons p r ih =>
      cases r with
      | nil => simp [joinL]
      | cons q r => rw [joinL, ih]; simp
  exact h ls
@[simp] theorem atI_zero {α : Type} (x : α) (xs : List α) : atI (x :: xs) 0 = some x := by
  have e : ixN (x :: xs).length 0 = some 0 := by
    unfold ixN
    rw [if_pos (by omega), if_pos (by simp)]; rfl
  unfold atI
  rw [e]; rfl
theorem allS_mk (ls : List (List Nat)) : allS (ls.map fun l => PyData.str (mkS l)) = some (ls.map mkS) := by
  induction ls with
  | nil => rfl
  | cons l ls ih => simp [allS, ih]
theorem allI_mk (ls : List Int) : allI (ls.map PyData.int) = some ls := by
  induction ls with
  | nil => rfl
  | cons l ls ih => simp [allI, ih]
theorem allB_mk (ls : List Bool) : allB (ls.map PyData.bool) = some ls := by
  induction ls with
  | nil => rfl
  | cons l ls ih => simp [allB, ih]
theorem allI_pN (ls : List Nat) : allI (ls.map pN) = some (ls.map fun (n : Nat) => (n : Int)) := by
  have : ls.map pN = (ls.map fun (n : Nat) => (n : Int)).map PyData.int := by rw [List.map_map]; rfl
  rw [this, allI_mk]
theorem allS_signs (l : List Nat) : allS (l.map encC) = some (l.map fun c => mkS [c]) := by
  induction l with
  | nil => rfl
  | cons c l ih => simp [allS, ih]
theorem sum_signs (l : List Nat) : ((l.map fun c => mkS [c]).map (·.length)).sum = l.length := by
  induction l with
  | nil => rfl
  | cons c l ih => simp at ih ⊢; omega
theorem flat_signs (l : List Nat) : (l.map fun c => [c]).flatten = l := by
  induction l with
  | nil => rfl
  | cons c l ih => rw [List.map_cons, List.flatten_cons, ih]; rfl
theorem join_signs (l : List Nat) : Txt.join (mkS []) (l.map fun c => mkS [c]) = mkS l := by
  have : (l.map fun c => mkS [c]) = (l.map fun c => [c]).map mkS := by rw [List.map_map]; rfl
  rw [this, join0, flat_signs]
section
variable {g : VTg} {tt : VB} {te : VT} {tb : VS} {De : VEnds} {ρ : VEnv} {Q : D → Prop} {α β : Type}
theorem lc_enc' (enc : α → PyData) (f : α → Option PyData) {L : List α} {acc : List PyData} (h : ∀ (i : Nat) (x : α), L[i]? = some x → ∀ k, k (f x) → lcStep g tt te (.py (enc x)) ρ k) (hl : acc.length + L.length < 16777216) (q : Q (.py (.list (acc ++ L.filterMap f)))) : lcGo g tt te Q (L.map (D.py ∘ enc)) acc ρ := by
  rw [← List.map_map]; exact lc_enc enc f h hl q
theorem lc_encF' (enc : α → PyData) (p : α → Bool) (e : α → PyData) {L : List α} (h : ∀ (i : Nat) (x : α), L[i]? = some x → ∀ k, (p x = true → k (some (e x))) → (p x = false → k none) → lcStep g tt te (.py (enc x)) ρ k)
    (hl : L.length < 16777216) (q : Q (.py (.list ((L.filter p).map e)))) : lcGo g tt te Q (L.map (D.py ∘ enc)) [] ρ := by
  rw [← List.map_map]; exact lc_encF enc p e h hl q
theorem lc_encM' (enc : α → PyData) (e : α → PyData) {L : List α} (h : ∀ (i : Nat) (x : α), L[i]? = some x → ∀ k, k (some (e x)) → lcStep g tt te (.py (enc x)) ρ k)
    (hl : L.length < 16777216) (q : Q (.py (.list (L.map e)))) : lcGo g tt te Q (L.map (D.py ∘ enc)) [] ρ := by
  rw [← List.map_map]; exact lc_encM enc e h hl q
theorem for_enc' (enc : α → PyData) (Iv : Nat → VEnv → Prop) {L : List α} (h0 : Iv 0 ρ) (h : ∀ i x ρ, L[i]? = some x → Iv i ρ → ∀ nx ct : VEnv → Prop, (∀ ρ', Iv (i + 1) ρ' → nx ρ' ∧ ct ρ') → g (.py (enc x)) ρ fun ρ1 => tb ρ1 ⟨nx, De.rt, De.nx, ct, De.ex⟩) (hd : ∀ ρ, Iv L.length ρ → De.nx ρ) :
    forGo g tb (L.map (D.py ∘ enc)) ρ De := by
  rw [← List.map_map]; exact for_enc enc Iv h0 h hd
end
end VL
set_option Elab.async false
set_option linter.all false
set_option maxRecDepth 100000
set_option maxHeartbeats 4000000
/-! ### isinstance of a caught error that has a dict -/
namespace PySem.W
open PySem PySem.Spec PySem.Calls PyProof.Rows
section
variable {prog : Program} {w : World} {A : Around} {E : Value → Shared → Prop} {s : Shared} {K : Frag} {x D : Addr} {ox : Obj} {od : Option Obj}
theorem findObj_dataA {C : Addr} {name : Str} {a g : Value} (hc : (clsIn K C).isSome = true) (ha : findIn K (.ref C) name = some (some a)) (hg : specialIn K a "__get__" = some (some g)) (ht : takesIn K a = some true) : findObj K C od name = some (.bind g a) := by
  obtain ⟨cd, hc⟩ := Option.isSome_iff_exists.mp hc
  unfold findObj
  rw [hc, Option.bind_some, ha, Option.bind_some]
  simp [hg, ht]
theorem kin_classA {Q : Option Value → Shared → Prop} (hga : findIn K (.ref D) "__getattribute__" = some (some (.builtin "BaseException.__getattribute__"))) (hgt : findIn K (.ref D) "__getattr__" = some none) (hsub : subIn K (.ref D) (.type "BaseException") = some true)
    (hdct : hasDictIn K D = true) (ha : findIn K (.ref D) "__class__" = some (some (.builtin "object.__class__")))
    (hn : specialIn K (.builtin "object.__class__") "__get__" = some (some (.builtin "getset_descriptor.__get__"))) (htk : takesIn K (.builtin "object.__class__") = some true) (hm : mroIn K D (.type "object") = some true)
    (X : K.In s.heap) (I : InstAt s.heap x ox D od) (h : Q (some (.ref D)) { s with toks := s.toks + 1 }) : wpAny (model prog w) A (getAttr? (.ref x) "__class__") Q E s := by
  have hf : findObj K D od "__class__" = some (.bind (.builtin "getset_descriptor.__get__") (.builtin "object.__class__")) := findObj_dataA (by obtain ⟨cd, hc, _⟩ := any_some hdct; rw [hc]; rfl) ha hn htk
  obtain ⟨hp, g, d, t, os⟩ := s
  have L0 := I.type (M := model prog w)
  have L1 := looks_findIn (M := model prog w) X hga
  have L2 := looks_findIn (M := model prog w) X hgt
  have L3 := looks_find (M := model prog w) X I hf
  have sub : Looks (model prog w) hp (isInstance (.ref x) (.type "BaseException")) true := L0.andThen (looks_subIn X hsub)
  have hx0 : (false && onTheHeap (Value.builtin "BaseException.__getattribute__")) = false := rfl
  have hx2 : (Value.builtin "BaseException.__getattribute__" == Value.builtin "object.__getattribute__") = false := by decide +kernel
  have hx1 : (onTheHeap (Value.ref D) && Value.builtin "BaseException.__getattribute__" == Value.builtin "object.__getattribute__") = false := by rw [hx2]; rfl
  unfold getAttr? getAttrBy? getAttrBy
  refine wpAny_bind (wpAny_mkText (wpAny_bind (wpAny_attempt (wpAny_holding (wpAny_bind (L0.at (wpAny_bind (L1.at ?_))))))))
  show wpAny _ _ (if (onTheHeap (Value.ref D) && Value.builtin "BaseException.__getattribute__" == Value.builtin "object.__getattribute__") = true then _ else _) _ _ _
  rw [hx1, if_neg Bool.false_ne_true]
  unfold getAttrByItsOwn hookBefore
  refine wpAny_bind ?_
  rw [if_pos (show onTheHeap (Value.ref D) = true from rfl)]
  refine L2.at ?_
  refine wpAny_bind (wpAny_attempt (wpAny_holding ?_))
  unfold callGetattribute
  rw [hx0, if_neg Bool.false_ne_true]
  unfold boundAndCalled
  rw [PySem.F.excAttr_ValueError.ga.bind (.ref x)]
  refine wpAny_bind (wpAny_pure ?_)
  show wpAny _ _ (call (.builtin "BaseException.__getattribute__") [.ref x, .str "__class__" t]) _ _ _
  refine wpAny_call (codeAny_call_builtin PySem.F.excAttr_ValueError.ga.plain PySem.F.entry_bexc_ga ?_)
  refine @check_slot (model prog w) _ _ ⟨hp, g, d, t + 1, os⟩ "BaseException.__getattribute__" "BaseException" "__getattribute__" (.ref x) [.str "__class__" t] [] _ (by decide +kernel) (by decide +kernel) sub (PySem.F.args_bexc_ga (.ref x) (.str "__class__" t)) ?_
  unfold Builtin.«object.__getattribute__»
  refine wpAny_bind (wpAny_of_eq (a := ((Value.ref x : Value), [Value.str "__class__" t])) (by first | rfl | (simp only [slotArgs]; rfl)) ?_)
  refine wpAny_bind (wpAny_pure (wpAny_bind (L0.at (wpAny_bind (L3.at ?_)))))
  show wpAny _ _ (holding [Value.builtin "object.__class__"] (call (.builtin "getset_descriptor.__get__") [.builtin "object.__class__", .ref x, .ref D]) >>= ret) _ _ _
  refine wpAny_bind (wpAny_holding (wpAny_call (class_get (s := ⟨hp, g, d, t + 1, os⟩) (ox := ox) (od := od) X I hm ?_)))
  refine wpAny_pure ?_
  show wpAny _ _ (handedOut (.ref D)) _ _ _
  rw [handedOut_of (v := .ref D) rfl]
  first
    | exact wpAny_pure (wpAny_pure h)
    | exact wpAny_pure h
    | exact wpAny_pure (wpAny_bind (wpAny_pure (wpAny_pure h)))
theorem kitx_excA (hga : findIn K (.ref D) "__getattribute__" = some (some (.builtin "BaseException.__getattribute__"))) (hgt : findIn K (.ref D) "__getattr__" = some none) (hsub : subIn K (.ref D) (.type "BaseException") = some true) (hdct : hasDictIn K D = true) (ha : findIn K (.ref D) "__class__" = some (some (.builtin "object.__class__")))
    (hn : specialIn K (.builtin "object.__class__") "__get__" = some (some (.builtin "getset_descriptor.__get__"))) (htk : takesIn K (.builtin "object.__class__") = some true) (hm : mroIn K D (.type "object") = some true) :
    KitX K (.ref x) (.ref D) (fun h => ∃ od, InstAt h x ox D od) where
  ty := fun _ _ _ ⟨_, I⟩ => I.type
  it := fun _ _ X _ => by
    obtain ⟨cdD, hcD, _⟩ := any_some hdct
    unfold clsIn at hcD
    split at hcD
    · rename_i c' d' cd' sl' ho
      intro A' Q' E' s' k q
      unfold isType loadHead
      exact wpAny_bind (wpAny_loadPart (k _ _ (X _ _ ho)) (wpAny_pure q))
    · cases hcD
  ne := fun h tp dd its n sl X htp => (handS_kitx_exc (x := x) (ox := ox) hga hgt hsub hdct ha hn htk hm).ne h tp dd its n sl X htp
  ca := fun X ⟨_, I⟩ k => kin_classA hga hgt hsub hdct ha hn htk hm X I k
end
end PySem.W

namespace VL
open PySem PySem.Spec PyProof.Rows L2 HT
/-! ### own errors -/
/-- n is x, or x stands above all errors of the package -/
def errSub (n x : Str) : Bool := n == x || x == "LineError" || x == "ValueError"
/-- what the written part says of an error's class -/
structure ErrC (K : PySem.W.Frag) (C : Addr) : Prop where
  hg : PySem.W.findIn K (.ref C) "__getattribute__" = some (some (.builtin "BaseException.__getattribute__"))
  hk : PySem.W.findIn K (.ref C) "__getattr__" = some none
  hs : PySem.W.subIn K (.ref C) (.type "BaseException") = some true
  hd : PySem.W.hasDictIn K C = true
  ha : PySem.W.findIn K (.ref C) "__class__" = some (some (.builtin "object.__class__"))
  hn : PySem.W.specialIn K (.builtin "object.__class__") "__get__" = some (some (.builtin "getset_descriptor.__get__"))
  ht : PySem.W.takesIn K (.builtin "object.__class__") = some true
  hm : PySem.W.mroIn K C (.type "object") = some true
/-- the classes that a test names: how the errors of the given names answer -/
structure ErrT (K : PySem.W.Frag) (mg : Str → Option Value) (b : Bg) (names : List Str) (x : Str) : Prop where
  ex : ∃ C : Addr, mg x = some (.ref C) ∧ ∀ n ∈ names, PySem.W.exmOne K (.ref (b.cls n)) (.ref C) = some (errSub n x) ∧ PySem.W.kitOne K (.ref (b.cls n)) (.ref C) = some (errSub n x)
/-- n's field f may be read -/
def ErrF (K : PySem.W.Frag) (b : Bg) (n f : Str) : Prop := PySem.W.findIn K (.ref (b.cls n)) f = some none
section
variable {b : Bg} {W : WX} {H0 : Hp} {M Zo Z : Addr → Prop} {σ : L2.St} {H H' : Hp} {ρ : VEnv} {De : VEnds} {Dn : Ends}
/-- a name is forgotten -/
theorem FOk.un (f : FOk b H0 M Zo Z σ H ρ) {i : Nat} (hi : i < ρ.length) : FOk b H0 M Zo (zBut Zo σ ρ i) (σ.set i none) H (ρ.set i .un) := by
  have v := f.v
  have sub := v.but i
  have hiσ : i < σ.length := by rw [← v.len]; exact hi
  have ow : ∀ {j : Nat} {e : D}, (ρ.set i .un)[j]? = some (.own e) → j ≠ i ∧ ρ[j]? = some (.own e) := fun {j e} h => by
    by_cases hj : j = i
    · subst hj
      rw [List.getElem?_set_self hi] at h; cases h
    · rw [List.getElem?_set_ne (Ne.symm hj)] at h
      exact ⟨hj, h⟩
  refine ⟨⟨v.g, v.zb, fun a z => .inl z, fun a z => v.dom a (sub a z), fun a z => ?_, fun j e h => ?_, fun j k e e2 a h1 h2 h3 h4 => ?_, fun j e h => ?_, by simpa using v.len⟩, f.ext, fun j e a h1 h2 => ?_⟩
  · rcases z with z | ⟨j, e, hj, h1, h2⟩
    · exact .inl z
    · exact .inr ⟨j, e, by rw [List.getElem?_set_ne (Ne.symm hj)]; exact h1, by rw [List.getElem?_set_ne (Ne.symm hj)]; exact h2⟩
  · obtain ⟨hj, h⟩ := ow h
    obtain ⟨a, h1, h2, h3, h4⟩ := v.own j e h
    exact ⟨a, by rw [List.getElem?_set_ne (Ne.symm hj)]; exact h1, .inr ⟨j, e, hj, h, h1⟩, h3, h4.mono (fun c z => .inl (sub c z)) (fun _ _ e _ => e) fun _ e => e⟩
  · obtain ⟨hj, h1⟩ := ow h1
    obtain ⟨hk, h2⟩ := ow h2
    rw [List.getElem?_set_ne (Ne.symm hj)] at h3
    rw [List.getElem?_set_ne (Ne.symm hk)] at h4
    exact v.inj j k e e2 a h1 h2 h3 h4
  · by_cases hj : j = i
    · subst hj
      rw [List.getElem?_set_self hi] at h; cases h
    · rw [List.getElem?_set_ne (Ne.symm hj)] at h
      obtain ⟨w, h1, h2⟩ := v.shr j e h
      exact ⟨w, by rw [List.getElem?_set_ne (Ne.symm hj)]; exact h1, h2.mono (fun c z => .inl (sub c z)) fun _ _ e _ => e⟩
  · obtain ⟨hj, h1⟩ := ow h1
    rw [List.getElem?_set_ne (Ne.symm hj)] at h2
    exact f.fr j e a h1 h2
end
/-! ### try: .. except x as n: .. -/
/-- the ends of an except suite: the name is forgotten behind it -/
@[simp] def afterS (i : Nat) (De : VEnds) : VEnds := { nx := fun ρ2 => i < ρ2.length ∧ De.nx (ρ2.set i .un), rt := De.rt, bk := fun ρ2 => i < ρ2.length ∧ De.bk (ρ2.set i .un), ct := fun ρ2 => i < ρ2.length ∧ De.ct (ρ2.set i .un), ex := fun _ _ => False }
/-- i: the slot of n; names: the errors that may be met here -/
@[simp] def sTry (i : Nat) (names : List Str) (x : Str) (tb : VS) (ts : Addr → Option Addr → Er → VS) : VS := fun ρ De => i < ρ.length ∧
  tb ρ { De with ex := fun ρ' er => i < ρ'.length ∧ er.n ∈ names ∧ if errSub er.n x = true then ∀ a d, ts a d er (ρ'.set i (.shr (.err a d er.n er.fs))) (afterS i De) else De.ex ρ' er }
section
variable {X : Cx} {b : Bg} {Wout : WX} {names : List Str} {x n : Str} {i : Nat} {body suite : List Stmt} {b₀ : Stmt} {np pos pos' : Pos} {tb : VS} {ts : Addr → Option Addr → Er → VS}
theorem vs_try (hs : X.stack = X.env :: X.outer) (hf : X.env.frame = some X.env.locals) (hN : X.N.Nodup) (hi : X.N[i]? = some n) (hln : X.env.kindOf n = some .local) (T : ErrT X.K X.mg b names x) (hg : Gl X x) (tk : Takes X Wout)
    (hb : ∀ (W : WX) (pn : List (Addr × Obj)) (xe : Value → Shared → Prop), Takes (X.tr pn xe) W → PassesOwn (model X.prog X.w) X.A X.env xe → VSs (X.tr pn xe) b W body tb)
    (hsu : ∀ (a : Addr) (oe : Obj) (er : Er) (d : Option Addr) (pn : List (Addr × Obj)), Zc (.ref (b.cls er.n)) d oe → (∃ vs, oe.data = .fields vs) → VSs (X.suite a ((a, oe) :: pn)) b noW (b₀ :: suite) (ts a d er))
    (hdb : (x == ("__debug__" : Str)) = false := by decide) :
    VSt X b Wout (.Try body [.ExceptHandler (some (.Name x np)) (some n) (b₀ :: suite) pos'] [] [] pos) (sTry i names x tb ts) := by
  obtain ⟨C, hm, hsub⟩ := T.ex
  refine ps_mono (ps_try_as (c := .ref C) (tb := fun W => LS b W tb) (ts := fun a cls d => fun D σ H => ∃ er : Er, cls = .ref (b.cls er.n) ∧ LS b noW (ts a d er) D σ H) hs hf hN hi hln ⟨hg, hdb, .inl hm⟩ tk hb ?_) ?_
  · intro a oe cls d pn hz hfd
    refine ⟨fun pins s σ H D I ⟨er, ec, q⟩ => ?_⟩
    subst ec
    exact (hsu a oe er d pn hz hfd).run pins s σ H D I q
  · rintro D σ H ⟨H0, M, Zo, Z, ρ, De, f, ⟨hiρ, q⟩, l⟩
    refine ⟨H0, M, Zo, Z, ρ, _, f, q, ⟨l.nx, l.rt, l.bk, l.ct, ?_⟩⟩
    rintro c d Z' σ' H' ρ' er f' ⟨ec, rd⟩ ⟨hi', hn, h⟩
    subst ec
    refine ⟨errSub er.n x, (hsub er.n hn).1, fun e a ha => ?_, fun e => ?_⟩
    · rw [if_pos e] at h
      have rp : Rp b Z' H' (.ref a) (.err a d er.n er.fs) := ⟨rfl, rd⟩
      refine ⟨er, rfl, H0, M, Zo, _, _, _, f'.set hi' rp, h a d, ⟨fun Z2 σ2 H2 ρ2 f2 q2 => ?_, l.rt, fun Z2 σ2 H2 ρ2 f2 q2 => ?_, fun Z2 σ2 H2 ρ2 f2 q2 => ?_, fun _ _ _ _ _ _ _ _ _ z => z.elim⟩⟩
      · exact l.nx _ _ _ _ (f2.un q2.1) q2.2
      · exact l.bk _ _ _ _ (f2.un q2.1) q2.2
      · exact l.ct _ _ _ _ (f2.un q2.1) q2.2
    · rw [if_neg (by rw [e]; exact Bool.false_ne_true)] at h
      exact l.ex _ _ _ _ _ _ _ f' ⟨rfl, rd⟩ h
end
end VL
set_option Elab.async false
set_option linter.all false
set_option maxRecDepth 100000
set_option maxHeartbeats 4000000
namespace VL
open PySem PySem.Spec PyProof.Rows L2 HT
abbrev veB : List Value := [.type "ValueError", .type "Exception", .type "BaseException", .type "object"]
/-! ### raise -/
/-- an error without fields can be made -/
structure Mk0 (K : PySem.W.Frag) (mg : Str → Option Value) (b : Bg) (n : Str) : Prop where
  g : mg n = some (.ref (b.cls n))
  q : PySem.W.excIn K (b.cls n) veB "ValueError.__new__" = true
  k : PySem.W.keepIn K (.ref (b.cls n)) = true
  s : PySem.W.subIn K (.ref (b.cls n)) (.type "BaseException") = some true
  t : PySem.W.typeIn K (.ref (b.cls n)) = some (.type "type")
theorem pmk_own0 {X : Cx} {C : Addr} {bmB : List Value} {B newId initId : String} {x : Str} {p pos : Pos} (F : ExcBaseFacts B newId initId bmB) (q : PySem.W.excIn X.K C bmB newId = true) (gC : X.mg x = some (.ref C))
    (kC : PySem.W.keepIn X.K (.ref C) = true) (r : Raises X (.ref C)) (hg : Gl X x) (hdb : (x == ("__debug__" : Str)) = false := by decide) :
    PMk X (.Call (.Name x p) [] [] pos) (fun _ H Q => Q (.ref C) none H) := by
  intro pins s σ H Q I h
  refine wpAny_Call_Name_kw (ld_glob I hg gC (PySem.W.callWith_K0 I.kIn kC ?_) hdb)
  show wpAny _ _ (call (.ref C) []) _ _ _
  obtain ⟨bm, N, nm, qn, bs, hdct, sn, sub, ab, col, dd, k0, k1, k2, k3, k5, mN, hC, hN, hni, T⟩ := exc_obj I.kIn q
  refine wpAny_call_exc_subT F T hC hN hni (fun h' e hm => ?_) (Nat.zero_le _)
  exact mk_of I hm r h (I.hok.gone hm.new)
@[simp] def sRaise0 (n : Str) : VS := fun ρ De => De.ex ρ ⟨n, []⟩
@[simp] def sRaise1 (n f : Str) (t : VT) : VS := fun ρ De => t ρ (fun d => ∃ p, d = .py p ∧ De.ex ρ ⟨n, [(f, p)]⟩) (De.ex ρ)
/-- what an error's own __init__ promises -/
def spInit (K : PySem.W.Frag) (f : Str) : Sp := fun vs H Q _ => ∃ (a C : Addr) (v : V), vs = [.ref a, v] ∧ OexC K C ∧ PySem.W.findIn K (.ref C) f = some none ∧ H a = some (exo a C none) ∧ ∀ dx, H dx = none → dx ≠ a → Q .non (upd (upd H dx (exd dx [(f, v)])) a (exo a C (some dx)))
theorem ok_init {P : Program} {w : World} {K : PySem.W.Frag} {mg : Str → Option Value} {base : Heap} {x qual f prm : Str} {st : Stmt} {fa : Addr} {fd : FuncData} {p1 p2 p3 p4 : Pos} (F : Fun K x qual st fa fd) (Sc : FnScope ["self", prm] ["self", prm] (defScope st))
    (hst : defBody st = [.Assign [.Attribute (.Name "self" p1) f p2] (.Name prm p3) p4]) (h0 : (defScope st).names.lookup ("self" : Str) = some .local) (h1 : (defScope st).names.lookup prm = some .local) (hd : (prm == ("__debug__" : Str)) = false) (hcd : (prm == ("__classdict__" : Str)) = false) :
    FnOk P w K mg base (L2.CX P w) 1 fa fd ["self", prm] (spInit K f) := by
  refine F.okX Sc (fun vs H Q E ⟨a, C, v, e, _⟩ => by rw [e]; rfl) fun cdv A outer s H vs Q E hr h => ?_
  rw [hst]
  refine ⟨_, pss_one (ps_ost (pe_var (i := 0) rfl (.inl h0)) (pe_var (i := 1) rfl (.inl h1) hd hcd)), ?_⟩
  obtain ⟨a, C, v, rfl, T, hno, e, q⟩ := h
  exact ⟨v, rfl, .ref a, rfl, a, C, rfl, T, hno, .inl ⟨e, fun dx hd hne => q dx hd hne⟩⟩
/-- an error with the field f can be made -/
structure Mk1 (P : Program) (w : World) (K : PySem.W.Frag) (mg : Str → Option Value) (base : Heap) (b : Bg) (n f : Str) where
  g : mg n = some (.ref (b.cls n))
  T : OexC K (b.cls n)
  hno : PySem.W.findIn K (.ref (b.cls n)) f = some none
  fI : Addr
  fd : FuncData
  prm : Str
  iC : PySem.W.findIn K (.ref (b.cls n)) "__init__" = some (some (.ref fI))
  tI : PySem.W.typeIn K (.ref fI) = some (.type "function")
  F : FnOk P w K mg base (L2.CX P w) 1 fI fd ["self", prm] (spInit K f)
  bd : Binds K fd ["self", prm] []
section
variable {X : Cx} {b : Bg} {W : WX} {n f : Str} {e : Expr} {t : VT} {p pos pos2 : Pos} {j : Nat}
theorem vs_raise0 (M : Mk0 X.K X.mg b n) (hc : X.calm = true) (tk : Takes X W) (hg : Gl X n) (hdb : (n == ("__debug__" : Str)) = false := by decide) : VSt X b W (.Raise (some (.Call (.Name n p) [] [] pos)) none pos2) (sRaise0 n) :=
  ps_mono (ps_raise hc tk (pmk_own0 PySem.F.excBase_ValueError M.q M.g M.k (raises_own M.s M.t) hg hdb)) fun D σ H ⟨H0, Mo, Zo, Z, ρ, De, fo, q, l⟩ => l.ex _ _ _ _ _ _ ⟨n, []⟩ fo ⟨rfl, .inl ⟨rfl, rfl⟩⟩ q
theorem vs_raise1 (M : Mk1 X.prog X.w X.K X.mg X.base b n f) (hr : Room j X.A) (hc : X.calm = true) (tk : Takes X W) (hg : Gl X n) (he : VE X b W e t) (hj : 2 ≤ j := by decide) (hdb : (n == ("__debug__" : Str)) = false := by decide)
    (hs : starEach [e] X.env = (false, eval e X.env) :: starEach [] X.env := by rfl) (hpl : (backTo pos (starEach [] X.env)).any (·.1) = false := by rfl) :
    VSt X b W (.Raise (some (.Call (.Name n p) [e] [] pos)) none pos2) (sRaise1 n f t) :=
  ps_mono (ps_raise hc tk (pmk_oex (k := 1) (ds := []) (dvs := []) M.T M.iC M.tI M.F (hr.mono hj) M.bd .nil passL hg M.g (va_cons he va_nil hs) hdb hs hpl)) fun D σ H ⟨H0, Mo, Zo, Z, ρ, De, fo, q, l⟩ => by
    refine ⟨Zo, Z, ρ, fun ds => match ds with | [d] => ∃ p, d = .py p ∧ De.ex ρ ⟨n, [(f, p)]⟩ | _ => False, De.ex ρ, fo.v, q, fun vs H1 ds x1 g1 r1 q1 => ?_, l.er fo⟩
    match ds, q1, r1 with
    | [_], ⟨p, rfl, q1⟩, .cons (v := v) rv .nil =>
      refine ⟨by show 1 ≤ 1000; omega, fun a ha => ⟨a, b.cls n, v, rfl, M.T, M.hno, upd_same, fun dx hd hne => ⟨rfl, dx, [(f, v)], upd_same, ?_, ?_, ?_⟩⟩⟩
      · rw [upd_ne hne]; exact upd_same
      · rw [upd_ne hne] at hd; exact hd
      · have hd1 : H1 dx = none := by rw [upd_ne hne] at hd; exact hd
        generalize hHf : upd (del (upd (upd (upd H1 a (exo a (b.cls n) none)) dx (exd dx [(f, v)])) a (exo a (b.cls n) (some dx))) a) dx (.xd [(f, v)]) = Hf
        have at_ : ∀ c, c ≠ a → c ≠ dx → Hf c = H1 c := fun c c1 c2 => by rw [← hHf, upd_ne c2, del_ne c1, upd_ne c1, upd_ne c2, upd_ne c1]
        have hfd : Hf dx = some (.xd [(f, v)]) := by rw [← hHf]; exact upd_same
        have x2 : Ex b H1 Hf := fun c o hc _ => by
          rw [at_ c (fun z => by rw [z, ha] at hc; cases hc) (fun z => by rw [z, hd1] at hc; cases hc)]
          exact hc
        have g2 : b.G Hf := b.loc H1 Hf (fun c hc => at_ c (fun z => b.dom H1 c g1 hc (by rw [z]; exact ha)) (fun z => b.dom H1 c g1 hc (by rw [z]; exact hd1))) (fun c P e => by rw [at_ c (fun z => by rw [z, ha] at e; cases e) (fun z => by rw [z, hd1] at e; cases e)]; exact e) g1
        have f1 := fo.ex x1 g1
        have f2 := f1.ex x2 g2
        refine l.ex _ _ _ _ _ _ ⟨n, [(f, _)]⟩ f2 ⟨rfl, .inr ⟨dx, _, rfl, hfd, f1.v.fresh hd1, .cons (f1.v.rq x2 rv) .nil⟩⟩ q1
end
end VL
set_option Elab.async false
set_option linter.all false
set_option maxRecDepth 100000
set_option maxHeartbeats 4000000
namespace VL
open PySem PySem.Spec PyProof.Rows L2 HT
/-! ### in an except suite: what is asked of the error -/
/-- the error's field f -/
@[simp] def vErrF (a : Addr) (d : Option Addr) (er : Er) (i : Nat) (nf : List Str) (f : Str) : VT := fun ρ Q _ => ρ[i]? = some (.shr (.err a d er.n er.fs)) ∧ er.n ∈ nf ∧ ∃ p, er.fs.lookup f = some p ∧ Q (.py p)
/-- isinstance(error, x) -/
@[simp] def vErrI (a : Addr) (d : Option Addr) (er : Er) (i : Nat) (names : List Str) (x : Str) : VT := fun ρ Q _ => ρ[i]? = some (.shr (.err a d er.n er.fs)) ∧ er.n ∈ names ∧ Q (.py (.bool (errSub er.n x)))
/-- isinstance(error, (x, ..)) -/
@[simp] def vErrIT (a : Addr) (d : Option Addr) (er : Er) (i : Nat) (names xs : List Str) : VT := fun ρ Q _ => ρ[i]? = some (.shr (.err a d er.n er.fs)) ∧ er.n ∈ names ∧ Q (.py (.bool (xs.any fun x => errSub er.n x)))
/-- what is asked of an error's class so that a field is read -/
structure FldC (K : PySem.W.Frag) (C : Addr) (f : Str) : Prop where
  x : XfC K C
  no : PySem.W.findIn K (.ref C) f = some none
section
variable {X : Cx} {b : Bg} {W : WX} {a : Addr} {oe : Obj} {er : Er} {d : Option Addr} {pn : List (Addr × Obj)} {i : Nat} {names nf xs : List Str} {x f nm : Str} {pos p p1 p2 : Pos} {e e2 : Expr} {es : List Expr}
theorem ve_errF (F : ∀ n ∈ nf, FldC X.K (b.cls n) f) (hz : Zc (.ref (b.cls er.n)) d oe) (hf : ∃ vs, oe.data = .fields vs) (he : PE (X.suite a ((a, oe) :: pn)) e (tVar i)) (hb : attributeBase e f X.env (eval e X.env) = eval e X.env := by rfl) :
    VE (X.suite a ((a, oe) :: pn)) b W (.Attribute e f pos) (vErrF a d er i nf f) := by
  refine ⟨fun pins s σ H Q I ⟨Zo, Z, ρ, Qd, Ed, v, ⟨hρ, hn, q, hq, k⟩, l, _⟩ => ?_⟩
  obtain ⟨u, hu, ru⟩ := v.shr i _ hρ
  obtain ⟨eu, rd⟩ := ru
  subst eu
  rcases rd with ⟨_, hfs⟩ | ⟨dd, xs, ed, hd, nz, rf⟩
  · rw [hfs] at hq; cases hq
  · obtain ⟨w, hw, rw'⟩ := rf.look hq
    have F' := F er.n hn
    exact (pe_xf (d := d) F'.x F'.no hz hf he hb).run pins s σ H Q I ⟨.ref a, hu, rfl, rfl, dd, xs, w, ed, hd, hw, l w H (.py q) Ex.refl v.g rw' k⟩
theorem inst_of {s : Shared} {D : Addr} (ha : s.heap.get? a = some oe) (hc : oe.cls = .ref D) (hd : oe.dict = d) (hdat : ∃ vs, oe.data = .fields vs) (ho : ∀ dd, d = some dd → ∃ o, s.heap.get? dd = some o) : ∃ od, PySem.W.InstAt s.heap a oe D od := by
  obtain ⟨vs, hv⟩ := hdat
  cases d with
  | none => exact ⟨none, ha, hc, by unfold PySem.W.notCls; rw [hv] <;> rfl, by rw [hd]; trivial⟩
  | some dd =>
    obtain ⟨o, e⟩ := ho dd rfl
    exact ⟨some o, ha, hc, by unfold PySem.W.notCls; rw [hv] <;> rfl, by rw [hd]; exact e⟩
/-- isinstance(e, c), e the exception that the suite holds, its dict d -/
def rIsA (K : PySem.W.Frag) (D a : Addr) (d : Option Addr) : List V → Hp → VK → Prop := fun xs H Q => ∃ (c : V) (cv : Value) (k : Bool), xs = [.ref a, c] ∧ (∀ u, RelV c u → u = cv) ∧ PySem.W.kitOne K (.ref D) cv = some k ∧ (∀ dd, d = some dd → ∃ fs, H dd = some (.xd fs)) ∧ Q (.bl k) H
def rIsAT (K : PySem.W.Frag) (D a : Addr) (d : Option Addr) : List V → Hp → VK → Prop := fun xs H Q => ∃ (tp : Addr) (cs : List Addr) (k : Bool), xs = [.ref a, .ref tp] ∧ H tp = some (.tup (cs.map V.ref)) ∧ PySem.W.kitAny K (.ref D) (cs.map Value.ref) = some k ∧ (∀ dd, d = some dd → ∃ fs, H dd = some (.xd fs)) ∧ Q (.bl k) H
theorem xd_at {pins : List (Addr × Obj)} {σ : L2.St} {H : Hp} {s : Shared} (I : Inv X pins σ H s) {dd : Addr} {fs : List (Str × V)} (e : H dd = some (.xd fs)) : ∃ o, s.heap.get? dd = some o := by
  have hx : ObjOk X.prog X.w H s.heap dd (.xd fs) := I.hok dd _ e
  obtain ⟨mA, ⟨o, _, _, ho, _⟩, _⟩ := hx
  exact ⟨o, ho⟩
theorem call_isA {D : Addr} (C : ErrC X.K D) (hz : Zc (.ref D) d oe) (hf : ∃ vs, oe.data = .fields vs) : CallR (X.suite a ((a, oe) :: pn)) (.builtin "isinstance") (rIsA X.K D a d) := by
  intro pins s σ H xs us Q I r ⟨c, cv, k, ex, hcv, e, hd, q⟩
  subst ex
  obtain ⟨u1, u2, rfl, r1, r2⟩ := vals2 r
  cases r1
  have ec := hcv _ r2
  subst ec
  obtain ⟨hget, _⟩ := I.pin (a, oe) (List.mem_append.mpr (.inl List.mem_cons_self))
  exact PySem.W.kia_one (PySem.W.kitx_excA C.hg C.hk C.hs C.hd C.ha C.hn C.ht C.hm) I.kIn (inst_of hget hz.1 hz.2 hf fun dd ed => by obtain ⟨fs, e⟩ := hd dd ed; exact xd_at I e) e (fun z => nomatch z) fun tk => ⟨.bl k, H, I.kept (t' := tk) fun _ _ z => z, rfl, q⟩
theorem refs_vals : ∀ {cs : List Addr} {us : List Value}, Vals (cs.map V.ref) us → us = cs.map Value.ref
  | [], _, .nil => rfl
  | c :: cs, _, .cons r t => by cases r; rw [refs_vals t]; rfl
theorem call_isAT {D : Addr} (C : ErrC X.K D) (hz : Zc (.ref D) d oe) (hf : ∃ vs, oe.data = .fields vs) : CallR (X.suite a ((a, oe) :: pn)) (.builtin "isinstance") (rIsAT X.K D a d) := by
  intro pins s σ H xs us Q I r ⟨tp, cs, k, ex, hT, e, hd, q⟩
  subst ex
  obtain ⟨u1, u2, rfl, r1, r2⟩ := vals2 r
  cases r1
  cases (show u2 = Value.ref tp from r2)
  obtain ⟨hget, _⟩ := I.pin (a, oe) (List.mem_append.mpr (.inl List.mem_cons_self))
  obtain ⟨_, its, rv, o, h1, h2, n, h3⟩ := (show ObjOk X.prog X.w H s.heap tp (.tup (cs.map V.ref)) from I.hok tp _ hT)
  have e3 := refs_vals rv
  subst e3
  obtain ⟨oc, od, dt, sl⟩ := o
  simp only at h2 h3
  subst h2 h3
  exact PySem.W.kia_tup (PySem.W.kitx_excA C.hg C.hk C.hs C.hd C.ha C.hn C.ht C.hm) I.kIn (inst_of hget hz.1 hz.2 hf fun dd ed => by obtain ⟨fs, e⟩ := hd dd ed; exact xd_at I e) h1 e (fun z => nomatch z) fun tk => ⟨.bl k, H, I.tok tk, rfl, q⟩
/-- the error's own dict, as it lies -/
theorem err_dict {Z : Addr → Prop} {H : Hp} {u : V} {n : Str} {fs : List (Str × PyData)} (r : Rp b Z H u (.err a d n fs)) : u = .ref a ∧ ∀ dd, d = some dd → ∃ xs, H dd = some (.xd xs) := by
  obtain ⟨e, h⟩ := r
  refine ⟨e, fun dd ed => ?_⟩
  rcases h with ⟨h, _⟩ | ⟨dd', xs, e1, h1, _⟩
  · rw [h] at ed; cases ed
  · rw [e1] at ed; cases ed; exact ⟨xs, h1⟩
theorem ve_errI (T : ErrT X.K X.mg b names x) (C : ∀ n ∈ names, ErrC X.K (b.cls n)) (hz : Zc (.ref (b.cls er.n)) d oe) (hf : ∃ vs, oe.data = .fields vs) (hg : Gl X "isinstance") (hm : X.mg "isinstance" = none) (he : PE (X.suite a ((a, oe) :: pn)) e (tVar i)) (hgx : Gl X x)
    (hdx : (x == ("__debug__" : Str)) = false := by decide) (hs : starEach [e, .Name x p1] X.env = (false, eval e X.env) :: starEach [.Name x p1] X.env := by rfl) (hs2 : starEach [.Name x p1] X.env = (false, eval (.Name x p1) X.env) :: starEach [] X.env := by rfl) (hpl : (backTo pos (starEach [.Name x p1] X.env)).any (·.1) = false := by rfl) :
    VE (X.suite a ((a, oe) :: pn)) b W (.Call (.Name "isinstance" p) [e, .Name x p1] [] pos) (vErrI a d er i names x) := by
  refine ⟨fun pins s σ H Q I ⟨Zo, Z, ρ, Qd, Ed, v, ⟨hρ, hn, k⟩, l, _⟩ => ?_⟩
  obtain ⟨Cx, hmx, hsub⟩ := T.ex
  obtain ⟨u, hu, ru⟩ := v.shr i _ hρ
  obtain ⟨eu, hdd⟩ := err_dict ru
  subst eu
  refine (pe_callB (X := X.suite a ((a, oe) :: pn)) (call_isA (C er.n hn) hz hf) hg hm bb_isi (pa_cons he (pa_cons (pe_glob (v := .ref Cx) hgx hmx rfl hdx) pa_nil hs2) hs) (by decide) (by decide) hs hpl).run pins s σ H Q I ?_
  exact ⟨.ref a, hu, .ref Cx, .ref Cx, errSub er.n x, rfl, fun w hw => hw, (hsub er.n hn).2, hdd, l (.bl _) H (.py (.bool _)) Ex.refl v.g (Rq.bl _) k⟩
/-- ValueError -/
theorem ve_errV (T : ∀ n ∈ names, PySem.W.kitOne X.K (.ref (b.cls n)) (.type "ValueError") = some true) (C : ∀ n ∈ names, ErrC X.K (b.cls n)) (hz : Zc (.ref (b.cls er.n)) d oe) (hf : ∃ vs, oe.data = .fields vs) (hg : Gl X "isinstance") (hm : X.mg "isinstance" = none) (he : PE (X.suite a ((a, oe) :: pn)) e (tVar i)) (hgx : Gl X "ValueError") (hmx : X.mg "ValueError" = none)
    (hs : starEach [e, .Name "ValueError" p1] X.env = (false, eval e X.env) :: starEach [.Name "ValueError" p1] X.env := by rfl) (hs2 : starEach [.Name "ValueError" p1] X.env = (false, eval (.Name "ValueError" p1) X.env) :: starEach [] X.env := by rfl) (hpl : (backTo pos (starEach [.Name "ValueError" p1] X.env)).any (·.1) = false := by rfl) :
    VE (X.suite a ((a, oe) :: pn)) b W (.Call (.Name "isinstance" p) [e, .Name "ValueError" p1] [] pos) (vErrI a d er i names "ValueError") := by
  refine ⟨fun pins s σ H Q I ⟨Zo, Z, ρ, Qd, Ed, v, ⟨hρ, hn, k⟩, l, _⟩ => ?_⟩
  obtain ⟨u, hu, ru⟩ := v.shr i _ hρ
  obtain ⟨eu, hdd⟩ := err_dict ru
  subst eu
  have ek : errSub er.n "ValueError" = true := by
    unfold errSub
    have : ((("ValueError" : Str)) == (("ValueError" : Str))) = true := beq_self_eq_true _
    rw [this, Bool.or_true]
  rw [ek] at k
  refine (pe_callB (X := X.suite a ((a, oe) :: pn)) (call_isA (C er.n hn) hz hf) hg hm bb_isi (pa_cons he (pa_cons (pe_bltn (v := .ty "ValueError") hgx hmx PyProof.Rows.Boot.«ValueError» rfl) pa_nil hs2) hs) (by decide) (by decide) hs hpl).run pins s σ H Q I ?_
  exact ⟨.ref a, hu, .ty "ValueError", .type "ValueError", true, rfl, fun w hw => hw, T er.n hn, hdd, l (.bl _) H (.py (.bool _)) Ex.refl v.g (Rq.bl _) k⟩
end
def tCs (cs : List Addr) : TA := fun _ H Q => Q (cs.map V.ref) H
/-- a row of classes -/
def PNs (X : Cx) (b : Bg) (names : List Str) (es : List Expr) (xs : List Str) : Prop := ∃ cs : List Addr, cs.length = xs.length ∧ (∀ n ∈ names, PySem.W.kitAny X.K (.ref (b.cls n)) (cs.map Value.ref) = some (xs.any fun x => errSub n x)) ∧ PA X es (tCs cs)
section
variable {X : Cx} {b : Bg} {W : WX} {a : Addr} {oe : Obj} {er : Er} {d : Option Addr} {pn : List (Addr × Obj)} {i : Nat} {names nf xs : List Str} {x f nm : Str} {pos p p1 p2 : Pos} {e e2 : Expr} {es : List Expr} {k1 : Nat}
theorem pns_nil : PNs X b names [] [] := ⟨[], rfl, fun _ _ => rfl, pa_mono pa_nil fun _ _ _ q => q⟩
theorem pns_cons (T : ErrT X.K X.mg b names x) (hgx : Gl X x) (h : PNs X b names es xs) (hdx : (x == ("__debug__" : Str)) = false := by decide) (hs : starEach (.Name x p1 :: es) X.env = (false, eval (.Name x p1) X.env) :: starEach es X.env := by rfl) :
    PNs X b names (.Name x p1 :: es) (x :: xs) := by
  obtain ⟨C, hm, hsub⟩ := T.ex
  obtain ⟨cs, hl, hk, hp⟩ := h
  refine ⟨C :: cs, by simp [hl], fun n hn => ?_, pa_mono (pa_cons (pe_glob (v := .ref C) hgx hm rfl hdx) hp hs) fun _ _ _ q => q⟩
  rw [List.map_cons, PySem.W.kitAny, (hsub n hn).2, List.any_cons]
  cases errSub n x with
  | true => rfl
  | false => rw [Bool.false_or]; exact hk n hn
theorem ve_errIT (P : PNs (X.suite a ((a, oe) :: pn)) b names es xs) (C : ∀ n ∈ names, ErrC X.K (b.cls n)) (hz : Zc (.ref (b.cls er.n)) d oe) (hf : ∃ vs, oe.data = .fields vs) (hg : Gl X "isinstance") (hm : X.mg "isinstance" = none) (he : PE (X.suite a ((a, oe) :: pn)) e (tVar i)) (hl : xs.length ≤ 1000)
    (hs : starEach [e, .Tuple es k1 p1] X.env = (false, eval e X.env) :: starEach [.Tuple es k1 p1] X.env := by rfl) (hs2 : starEach [.Tuple es k1 p1] X.env = (false, eval (.Tuple es k1 p1) X.env) :: starEach [] X.env := by rfl) (hpl : (backTo pos (starEach [.Tuple es k1 p1] X.env)).any (·.1) = false := by rfl) :
    VE (X.suite a ((a, oe) :: pn)) b W (.Call (.Name "isinstance" p) [e, .Tuple es k1 p1] [] pos) (vErrIT a d er i names xs) := by
  refine ⟨fun pins s σ H Q I ⟨Zo, Z, ρ, Qd, Ed, v, ⟨hρ, hn, k⟩, l, _⟩ => ?_⟩
  obtain ⟨cs, hlc, hk, hp⟩ := P
  obtain ⟨u, hu, ru⟩ := v.shr i _ hρ
  obtain ⟨eu, hdd⟩ := err_dict ru
  subst eu
  refine (pe_callB (X := X.suite a ((a, oe) :: pn)) (call_isAT (C er.n hn) hz hf) hg hm bb_isi (pa_cons he (pa_cons (pe_tup hp) pa_nil hs2) hs) (by decide) (by decide) hs hpl).run pins s σ H Q I ?_
  refine ⟨.ref a, hu, by rw [List.length_map, hlc, sizeLine_eq]; omega, fun tp htp => ⟨tp, cs, _, rfl, upd_same, hk er.n hn, fun dd ed => ?_, l (.bl _) _ (.py (.bool _)) (Ex.new htp) (Bg.new v.g htp) (Rq.bl _) k⟩⟩
  obtain ⟨xs, hx⟩ := hdd dd ed
  exact ⟨xs, by rw [upd_ne (ne_of_none hx htp)]; exact hx⟩
end
end VL
set_option Elab.async false
set_option linter.all false
set_option maxRecDepth 100000
set_option maxHeartbeats 4000000
namespace VL
open PySem PySem.Spec PyProof.Rows L2 HT
/-! ### the facts of the errors' classes, for the join -/
/-- what every error's class that is raised must say -/
structure RaiB (K : PySem.W.Frag) (C : Addr) (n : Str) : Prop where
  ns : PySem.W.nsIn K mainGlobals n = some (some (.ref C))
  kC : PySem.W.keepIn K (.ref C) = true
  tyC : PySem.W.typeIn K (.ref C) = some (.type "type")
  sf : PySem.W.selfFirst K C = true
  ve : PySem.W.subIn K (.ref C) (.type "ValueError") = some true
  ec : ErrC K C
theorem raiB {K : PySem.W.Frag} {C : Addr} {n : Str} (a1 : PySem.W.nsIn K mainGlobals n = some (some (.ref C))) (a2 : PySem.W.keepIn K (.ref C) = true) (a3 : PySem.W.typeIn K (.ref C) = some (.type "type")) (a4 : PySem.W.selfFirst K C = true)
    (a5 : PySem.W.subIn K (.ref C) (.type "ValueError") = some true)
    (b1 : PySem.W.findIn K (.ref C) "__getattribute__" = some (some (.builtin "BaseException.__getattribute__"))) (b2 : PySem.W.findIn K (.ref C) "__getattr__" = some none) (b3 : PySem.W.subIn K (.ref C) (.type "BaseException") = some true) (b4 : PySem.W.hasDictIn K C = true)
    (b5 : PySem.W.findIn K (.ref C) "__class__" = some (some (.builtin "object.__class__"))) (b6 : PySem.W.specialIn K (.builtin "object.__class__") "__get__" = some (some (.builtin "getset_descriptor.__get__"))) (b7 : PySem.W.takesIn K (.builtin "object.__class__") = some true) (b8 : PySem.W.mroIn K C (.type "object") = some true) : RaiB K C n := ⟨a1, a2, a3, a4, a5, ⟨b1, b2, b3, b4, b5, b6, b7, b8⟩⟩
structure Rai0 (K : PySem.W.Frag) (n : Str) : Prop where
  ex : ∃ C : Addr, RaiB K C n ∧ PySem.W.excIn K C veB "ValueError.__new__" = true
theorem rai0 {K : PySem.W.Frag} {C : Addr} {n : Str} (r : RaiB K C n) (q : PySem.W.excIn K C veB "ValueError.__new__" = true) : Rai0 K n := ⟨C, r, q⟩
structure RaiI (K : PySem.W.Frag) (C : Addr) (n qual f : Str) (st : Stmt) : Prop where
  b : RaiB K C n
  T : OexC K C
  no : PySem.W.findIn K (.ref C) f = some none
  ini : ∃ (fI : Addr) (fd : FuncData), Fun K "__init__" qual st fI fd ∧ PySem.W.findIn K (.ref C) "__init__" = some (some (.ref fI)) ∧ PySem.W.typeIn K (.ref fI) = some (.type "function")
structure Rai1 (K : PySem.W.Frag) (n qual f : Str) (st : Stmt) : Prop where
  ex : ∃ C : Addr, RaiI K C n qual f st
theorem rai1 {K : PySem.W.Frag} {C fI : Addr} {n qual f : Str} {st : Stmt} {oc kV doc pm cdv ct : Value} {od an : Option Addr} {osl : Array (Option Value)} {nm q : Str} {N : Addr} {bs bm : List Value} {sn : List Str} {sub : List Value} {ab : Bool} {col : Option Bool} {dd : Option Addr} {k0 k1 k2 k3 k5 : Option Value} (r : RaiB K C n)
    (c1 : K.lookup C = some (excClassObj nm q C N bs bm true sn sub ab col dd k0 k1 k2 k3 k5 "ValueError.__new__")) (c2 : PySem.HandSPX.refsVE bm = true) (c3 : PySem.W.findIn K (.ref C) "__setattr__" = some (some (.builtin "object.__setattr__"))) (c4 : PySem.W.findIn K (.ref C) f = some none)
    (d1 : PySem.W.findIn K (.ref C) "__init__" = some (some (.ref fI))) (d2 : PySem.W.typeIn K (.ref fI) = some (.type "function")) (d3 : K.lookup fI = some ⟨oc, od, .func (PySem.W.fnOf "__init__" qual (defArgs st) (defBody st) (defScope st) .none kV doc pm an cdv ct), osl⟩) (d4 : PySem.W.codeIn K cdv qual = true) (d5 : PySem.W.keepIn K (.ref fI) = true) : Rai1 K n qual f st :=
  ⟨C, r, ⟨⟨nm, q, N, bs, bm, sn, sub, ab, col, dd, k0, k1, k2, k3, k5, c1, c2⟩, c3, r.ec.hs, r.tyC, r.kC⟩, c4, fI, _, fun_mk d3 d4 d5, d1, d2⟩
/-- a class that is asked for -/
structure TstK (K : PySem.W.Frag) (x : Str) : Prop where
  ex : ∃ C : Addr, PySem.W.nsIn K mainGlobals x = some (some (.ref C)) ∧ PySem.W.isClsIn K C = true ∧ PySem.W.typeIn K (.ref C) = some (.type "type") ∧ PySem.W.subIn K (.ref C) (.type "BaseException") = some true
theorem tstK {K : PySem.W.Frag} {C : Addr} {x : Str} (a1 : PySem.W.nsIn K mainGlobals x = some (some (.ref C))) (a2 : PySem.W.isClsIn K C = true) (a3 : PySem.W.typeIn K (.ref C) = some (.type "type")) (a4 : PySem.W.subIn K (.ref C) (.type "BaseException") = some true) : TstK K x := ⟨C, a1, a2, a3, a4⟩
/-- n beside x -/
structure SubK (K : PySem.W.Frag) (n x : Str) : Prop where
  ex : ∃ C D : Addr, PySem.W.nsIn K mainGlobals n = some (some (.ref C)) ∧ PySem.W.nsIn K mainGlobals x = some (some (.ref D)) ∧ PySem.W.subIn K (.ref C) (.ref D) = some (errSub n x)
theorem subK {K : PySem.W.Frag} {C D : Addr} {n x : Str} {k : Bool} (a1 : PySem.W.nsIn K mainGlobals n = some (some (.ref C))) (a2 : PySem.W.nsIn K mainGlobals x = some (some (.ref D))) (a3 : PySem.W.subIn K (.ref C) (.ref D) = some k) (a4 : errSub n x = k) : SubK K n x := ⟨C, D, a1, a2, by rw [a4]; exact a3⟩
section
variable {K : PySem.W.Frag} {h : Heap} {mg : Str → Option Value} {b : Bg} {n x qual f prm : Str} {C : Addr} {st : Stmt} {names : List Str}
theorem self_sub (sf : PySem.W.selfFirst K C = true) : PySem.W.subIn K (.ref C) (.ref C) = some true := by
  unfold PySem.W.selfFirst at sf
  show PySem.W.mroIn K C (.ref C) = some true
  unfold PySem.W.mroIn
  cases hc : PySem.W.clsIn K C with
  | none => rw [hc] at sf; cases sf
  | some cd =>
    rw [hc] at sf
    have e : cd.mro.head? = some (.ref C) := by simpa using sf
    cases hm : cd.mro with
    | nil => rw [hm] at e; cases e
    | cons v r =>
      rw [hm] at e
      have ev : v = .ref C := by simpa using e
      subst ev
      simp [hm]
theorem kit_of_sub {D : Addr} {k : Bool} (sf : PySem.W.selfFirst K C = true) (hs : PySem.W.subIn K (.ref C) (.ref D) = some k) (hi : PySem.W.isClsIn K D = true) (ht : PySem.W.typeIn K (.ref D) = some (.type "type")) : PySem.W.kitOne K (.ref C) (.ref D) = some k := by
  unfold PySem.W.kitOne
  by_cases e : C = D
  · subst e
    rw [if_pos (by simp)]
    rw [self_sub sf] at hs
    exact hs
  · rw [if_neg (by simpa using e)]
    unfold PySem.W.kitCls
    have h1 : (PySem.W.clsIn K D).isSome = true := hi
    have h2 : (PySem.W.typeIn K (.ref D) == some (.type "type")) = true := by rw [ht]; simp
    simp only [h1, h2, Bool.and_self, if_true]
    exact hs
theorem exm_of_sub {D : Addr} {k : Bool} (hs : PySem.W.subIn K (.ref C) (.ref D) = some k) (hi : PySem.W.isClsIn K D = true) (ht : PySem.W.typeIn K (.ref D) = some (.type "type")) (hb : PySem.W.subIn K (.ref D) (.type "BaseException") = some true) : PySem.W.exmOne K (.ref C) (.ref D) = some k := by
  have e1 : (PySem.W.subIn K (.ref D) (.type "BaseException") == some true) = true := by rw [hb] <;> rfl
  have e2 : ((PySem.W.clsIn K D).isSome && PySem.W.typeIn K (.ref D) == some (.type "type")) = true := by
    have h1 : (PySem.W.clsIn K D).isSome = true := hi
    rw [h1, ht] <;> rfl
  show (if (PySem.W.subIn K (.ref D) (.type "BaseException") == some true) = true then (if ((PySem.W.clsIn K D).isSome && PySem.W.typeIn K (.ref D) == some (.type "type")) = true then PySem.W.subIn K (.ref C) (.ref D) else none) else none) = some k
  rw [if_pos e1, if_pos e2]
  exact hs
theorem errT (X : K.In h) (G : h.Ns mainGlobals mg) (t : TstK K x) (hs : ∀ n ∈ names, SubK K n x ∧ RaiB K (b.cls n) n) : ErrT K mg b names x := by
  obtain ⟨D, h1, h2, h3, h4⟩ := t.ex
  refine ⟨D, PySem.W.mg_of X G h1, fun n hn => ?_⟩
  obtain ⟨⟨C', D', a1, a2, a3⟩, r⟩ := hs n hn
  have e1 : C' = b.cls n := by
    have := a1.symm.trans r.ns
    injection this with this; injection this with this; injection this
  have e2 : D' = D := by
    have := a2.symm.trans h1
    injection this with this; injection this with this; injection this
  rw [e1, e2] at a3
  exact ⟨exm_of_sub a3 h2 h3 h4, kit_of_sub r.sf a3 h2 h3⟩
theorem errV (hs : ∀ n ∈ names, RaiB K (b.cls n) n) : ∀ n ∈ names, PySem.W.kitOne K (.ref (b.cls n)) (.type "ValueError") = some true := fun n hn => by
  have r := hs n hn
  unfold PySem.W.kitOne
  rw [if_neg (by simp)]
  unfold PySem.W.kitCls
  have : PySem.W.kitMeta "ValueError" = true := by decide +kernel
  simp only [this, if_true]
  exact r.ve
theorem RaiB.mk0 (r : RaiB K (b.cls n) n) (q : PySem.W.excIn K (b.cls n) veB "ValueError.__new__" = true) (X : K.In h) (G : h.Ns mainGlobals mg) : Mk0 K mg b n := ⟨PySem.W.mg_of X G r.ns, q, r.kC, r.ec.hs, r.tyC⟩
theorem RaiI.fld (r : RaiI K (b.cls n) n qual f st) : FldC K (b.cls n) f := ⟨⟨r.b.ec.hg, r.b.ec.hk, r.b.ec.hs, r.b.ec.hd⟩, r.no⟩
theorem RaiI.mk1 {P : Program} {w : World} {base : Heap} (r : RaiI K (b.cls n) n qual f st) (X : K.In h) (G : h.Ns mainGlobals mg) (wk : ∀ (fa : Addr) (fd : FuncData), Fun K "__init__" qual st fa fd → FnOk P w K mg base (L2.CX P w) 1 fa fd ["self", prm] (spInit K f))
    (bd : ∀ (kV doc pm : Value) (an : Option Addr) (cdv ct : Value) (us : List Value), us.length = (["self", prm] : List Str).length → bindArgs (PySem.W.fnOf "__init__" qual (defArgs st) (defBody st) (defScope st) .none kV doc pm an cdv ct) ⟨us, []⟩ = pure ((["self", prm] : List Str).zip us)) : Nonempty (Mk1 P w K mg base b n f) := by
  obtain ⟨fI, fd, F, iC, tI⟩ := r.ini
  exact ⟨⟨PySem.W.mg_of X G r.b.ns, r.T, r.no, fI, fd, prm, iC, tI, wk fI fd F, F.binds bd⟩⟩
end
/-- the classes' addresses by their names -/
def clsOf : List (Str × Addr) → Addr → Str → Addr
  | [], fa, _ => fa
  | (m, C) :: r, fa, n => if m = n then C else clsOf r fa n
theorem clsOf_hd {m : Str} {C fa : Addr} {r : List (Str × Addr)} : clsOf ((m, C) :: r) fa m = C := if_pos rfl
theorem clsOf_tl {m n : Str} {C fa : Addr} {r : List (Str × Addr)} (h : (m == n) = false) : clsOf ((m, C) :: r) fa n = clsOf r fa n := if_neg (by simpa using h)
/-- a def within a class -/
def clsDef (s : Stmt) (i : Nat) : Stmt := match s with
  | .ClassDef _ _ _ b _ _ _ _ _ _ _ => b.getD i (.Pass ⟨0, 0, 0, 0⟩)
  | s => s
end VL
set_option Elab.async false
set_option linter.all false
set_option maxRecDepth 100000
set_option maxHeartbeats 2000000
/-! VL38: defs with one star parameter, called plainly. -/
namespace VL
open PySem PySem.Spec PyProof.Rows L2
@[simp] def svStar (S : SV) : SV := fun ds Q E => ∃ ps, pys ds = some ps ∧ ps.length ≤ sizeLine ∧ S [.py (.tuple ps)] Q E
theorem spStar {b : Bg} {S : SV} {vs : List V} {H : Hp} {Q : VK} {E : XK} (h : spV b (svStar S) vs H Q E) : vs.length ≤ sizeLine ∧ ∀ p, H p = none → ∀ o : Obj, o.dict = none → spV b S [V.ref p] (upd H p (HO.th o vs)) Q E := by
  obtain ⟨Z, ds, Qd, Ed, g, r, ⟨ps, e, hl, s⟩, l, m⟩ := h
  have r2 := r.pyL e
  refine ⟨by rw [r2.length]; exact hl, fun p hp o ho => ⟨Z, [.py (.tuple ps)], Qd, Ed, ⟨g.new hp, g.zb, fun a z => ?_⟩, .cons ?_ .nil, s, fun v H' d x g1 r1 q => l v H' d ((Ex.new hp).trans x) g1 r1 q, fun c y H' er x g1 r1 q => m c y H' er ((Ex.new hp).trans x) g1 r1 q⟩⟩
  · by_cases ea : a = p
    · subst ea; rw [upd_same]; simp
    · rw [upd_ne ea]; exact g.dom a z
  · show Rq Z (upd H p (HO.th o vs)) (.ref p) (.tuple ps)
    exact Rq.tup upd_same ho (g.fresh hp) (r2.up hp)
structure CalR (P : Program) (w : World) (K : PySem.W.Frag) (mg : Str → Option Value) (base : Heap) (b : Bg) (k : Nat) (x : Str) (S : SV) where
  f : Addr
  F : FnR P w K mg base (L2.CX P w) k f (spV b S)
  g : mg x = some (.ref f)
  kp : PySem.W.keepIn K (.ref f) = true
section
variable {CX : CXT} {P : Program} {w : World} {K : PySem.W.Frag} {mg : Str → Option Value} {base : Heap} {k : Nat} {f : Addr} {name qual : Str} {params : Arguments} {body : List Stmt} {scope : Scope} {dV kV doc pm cdv ct oc : Value} {an od : Option Addr}
  {osl : Array (Option Value)} {N ps : List Str} {sp : Sp}
/-- def f(*v): what is given is a new tuple, its very object known -/
theorem fn_starF {pv : Str} (lk : K.lookup f = some ⟨oc, od, .func (PySem.W.fnOf name qual params body scope dV kV doc pm an cdv ct), osl⟩) (hcd : PySem.W.codeIn K cdv qual = true) (S : FnScope N [pv] scope) (hCX : StX.CXUp CX)
    (hb : ∀ rest : List Value, bindArgs (PySem.W.fnOf name qual params body scope dV kV doc pm an cdv ct) ⟨rest, []⟩ = (newTuple rest >>= fun t => pure [(pv, t)]))
    (hbody : ∀ (A : Around) (outer : List Env) (s : Shared) (H : Hp) (vs : List V) (Q : VK) (E : XK), Room k (A.deeper (envOfC qual scope s.heap.objs.size f cdv)) → sp vs H Q E →
      ∃ t, PSs (cxOf CX P w K mg base N qual scope f cdv A outer s H E) body t ∧ t { nx := fun _ H' => Q .non H', rt := Q } (L2.start N vs) H) :
    FnR P w K mg base CX (k + 1) f (fun vs H Q E => vs.length ≤ sizeLine ∧ ∀ p, H p = Option.none → ∀ o : Obj, o.dict = none → sp [V.ref p] (upd H p (HO.th o vs)) Q E) := by
  intro A outer s H us vs Q E hr e0 r ⟨hz, hq⟩
  have hn : H s.heap.objs.size = Option.none := e0.hok.fresh (Nat.le_refl _)
  have hl2 : us.length ≤ sizeLine := by rw [← r.length]; exact hz
  refine StX.run_bnd lk hcd S hr e0 (G := fun xs H2 => ∃ p, H p = Option.none ∧ ∃ o : Obj, o.dict = none ∧ xs = [V.ref p] ∧ H2 = upd H p (HO.th o vs)) (fun A' Ex Q' h => ?_) fun s2 H2 xs ⟨p, hp, o, ho, ex, eH⟩ hr' => ?_
  · rw [hb us]
    refine wpAny_bind (wpAny_newTuple (wpAny_pure ?_) hl2)
    have new : ObjOk P w (upd H s.heap.objs.size (HO.th (tob us) vs)) (s.heap.push (tob us)) s.heap.objs.size (HO.th (tob us) vs) := th_ok hz r (Heap.get?_push_size _ rfl)
    have un := StX.un_laid (fs := frs outer) (s := s) (o := tob us) (u := HO.th (tob us) vs) hn
    exact h _ _ [V.ref s.heap.objs.size] [Value.ref s.heap.objs.size] (StX.env0_laid e0 new) un rfl (fun e s' => hCX outer s H _ _ E e s' un (fun b o q => Heap.get?_push_of_some _ q) rfl) (.cons rfl .nil) rfl ⟨_, hn, tob us, rfl, rfl, rfl⟩
  · subst ex eH
    exact hbody A outer s2 _ _ Q E hr' (hq p hp o ho)
end
section
variable {P : Program} {w : World} {K : PySem.W.Frag} {mg : Str → Option Value} {base : Heap} {b : Bg} {k : Nat} {x qual pv : Str} {st : Stmt} {f : Addr} {fd : FuncData} {N : List Str} {S : SV}
theorem fnStar (F : Fun K x qual st f fd) (Sc : FnScope N [pv] (defScope st)) {t : VS} (hlen : ∀ ds Q E, S ds Q E → ds.length = 1) (hps : 1 ≤ N.length)
    (hb0 : ∀ (kV doc pm : Value) (an : Option Addr) (cdv ct : Value), bindArgs (PySem.W.fnOf x qual (defArgs st) (defBody st) (defScope st) .none kV doc pm an cdv ct) ⟨[], []⟩ = (newTuple [] >>= fun t => pure [(pv, t)]))
    (hb1 : ∀ (kV doc pm : Value) (an : Option Addr) (cdv ct : Value) (r : Value) (rs : List Value), bindArgs (PySem.W.fnOf x qual (defArgs st) (defBody st) (defScope st) .none kV doc pm an cdv ct) ⟨r :: rs, []⟩ = (newTuple (r :: rs) >>= fun t => pure [(pv, t)]))
    (hbody : ∀ (cdv : Value) (A : Around) (outer : List Env) (s : Shared) (H : Hp) (E : XK), Room k (A.deeper (envOfC qual (defScope st) s.heap.objs.size f cdv)) →
      Takes (cxOf (L2.CX P w) P w K mg base N qual (defScope st) f cdv A outer s H E) (WF E) → VSs (cxOf (L2.CX P w) P w K mg base N qual (defScope st) f cdv A outer s H E) b (WF E) (defBody st) t)
    (hlaw : ∀ ds Q E, S ds Q E → t (envOf N.length ds) (fin Q E)) : FnR P w K mg base (L2.CX P w) (k + 1) f (spV b (svStar S)) := by
  have len : ∀ vs H Q E, spV b S vs H Q E → vs.length = 1 := fun vs H Q E ⟨Z, ds, Qd, Ed, g, r, s, _⟩ => r.length.trans (hlen ds Qd Ed s)
  obtain ⟨oc, od, kV, doc, pm, an, cdv, ct, osl, rfl, lk, hcd⟩ := F.ex
  refine (fn_starF (sp := spV b S) lk hcd Sc StX.cxUp (fun rest => ?_) fun A outer s H vs Q E hr h => ⟨_, hbody cdv A outer s H E hr (takes_of rfl rfl rfl rfl), fin_link hlaw (Nat.le_trans (Nat.le_of_eq (len _ _ _ _ h)) hps) h⟩).imp fun vs H Q E h => spStar h
  cases rest with
  | nil => exact hb0 kV doc pm an cdv ct
  | cons r rs => exact hb1 kV doc pm an cdv ct r rs
end
section
variable {X : Cx} {b : Bg} {W : WX} {k j : Nat} {x : Str} {S : SV} {e : Expr} {es : List Expr} {u : VA} {p pos : Pos}
theorem run_fnRS {k : Nat} {f : Addr} {sp : Sp} {E : L2.St → XK} {pins : List (Addr × Obj)} {σ : L2.St} {H : Hp} {s : Shared} {Q : VK} {us : List Value} {vs : List V} (F : FnR X.prog X.w X.K X.mg X.base (L2.CX X.prog X.w) k f sp) (hr : Room k X.A) (hx : PassesAt (L2.CX X.prog X.w) X σ (E σ)) (I : Inv X pins σ H s) (r : Vals vs us) (h : sp vs H Q (E σ)) :
    wpAny (model X.prog X.w) X.A (call (.ref f) us) (EP X pins σ Q) X.xe s := by
  refine wpAny_call (codeAny_mono (F X.A X.stack s H us vs Q (E σ) hr I.env0 r h) fun r s' hq => ?_)
  cases r with
  | error e => exact hx pins H s e s' I hq
  | ok fl =>
    cases fl with
    | ret u => exact I.after hq
    | next => exact False.elim hq
    | brk => exact False.elim hq
    | cont => exact False.elim hq
theorem ve_calR (c : CalR X.prog X.w X.K X.mg X.base b k x S) (hr : Room j X.A) (tk : Takes X W) (hg : Gl X x) (ha : VAs X b W (e :: es) u) (hk : k ≤ j := by decide) (hdb : (x == ("__debug__" : Str)) = false := by decide)
    (he : starEach (e :: es) X.env = (false, eval e X.env) :: starEach es X.env := by rfl) (hpl : (backTo pos (starEach es X.env)).any (·.1) = false := by rfl) : VE X b W (.Call (.Name x p) (e :: es) [] pos) (vCall S u) := by
  refine pe_mono (t := tCallS (spV b S) (WE W) (LA b W u)) ⟨fun pins s σ H Q I h => ?_⟩ (call_core rfl rfl)
  refine wpAny_Call_Name_kw (ld_glob I hg c.g ?_ hdb)
  refine PySem.W.callWith_K (h₀ := X.base) I.ok.mod.kin c.kp (thn (ha.run pos pins s σ H _ I h) fun us s1 ⟨vs, H1, I1, r, q⟩ => ⟨I1.kIn, ?_⟩) he hpl
  exact run_fnRS c.F (hr.mono hk) (passAt tk σ) I1 r q
theorem ve_calR0 (c : CalR X.prog X.w X.K X.mg X.base b k x S) (hr : Room j X.A) (tk : Takes X W) (hg : Gl X x) (hk : k ≤ j := by decide) (hdb : (x == ("__debug__" : Str)) = false := by decide) :
    VE X b W (.Call (.Name x p) [] [] pos) (vCall S vNil) := by
  refine pe_mono (t := tCallS (spV b S) (WE W) tNil) ⟨fun pins s σ H Q I h => ?_⟩ fun σ H Q ⟨Zo, Z, ρ, Qd, Ed, v, q, l, m⟩ => ⟨Z, [], Qd, Ed, v.gd, .nil, q, l, m⟩
  exact wpAny_Call_Name_kw (ld_glob I hg c.g (PySem.W.callWith_K0 I.kIn c.kp (run_fnRS (us := []) c.F (hr.mono hk) (passAt tk σ) I .nil h)) hdb)
end
end VL
set_option Elab.async false
set_option linter.all false
set_option maxRecDepth 100000
set_option maxHeartbeats 2000000
/-! VL39: list.count of bools -/
namespace VL
open PySem PySem.Spec PyProof.Rows L2
def eqb (k : Bool) (v : Value) : Bool := match v with
  | .bool n => n == k
  | _ => false
theorem bools_vals : ∀ {us : List Value} {ns : List Bool}, Vals (ns.map V.bl) us → us = ns.map Value.bool
  | [], [], .nil => rfl
  | _, n :: ns, .cons r t => by
    cases r
    rw [List.map_cons, bools_vals t]
theorem eqb_count {k : Bool} : ∀ {ns : List Bool}, (ns.map Value.bool).countP (eqb k) = ns.count k
  | [] => rfl
  | n :: ns => by
    have ih := eqb_count (k := k) (ns := ns)
    rw [List.map_cons, List.countP_cons, List.count_cons, ih] <;> rfl
def rCntB (K : PySem.W.Frag) : V → List V → Hp → VK → Prop := fun x xs H Q => ∃ (p : Addr) (ns : List Bool) (k : Bool), x = .ref p ∧ xs = [.bl k] ∧ SqL K H p (ns.map V.bl) ∧ Q (.int (ns.count k : Nat)) H
theorem mt_lcountB {X : Cx} : MtR X "list.count" (rCntB X.K) := by
  intro pins s σ H x xs v us Q I rx rxs h
  obtain ⟨p, ns, k, rfl, rfl, hs, q⟩ := h
  cases rx
  obtain ⟨u, rfl, ru⟩ := vals1 rxs
  cases ru
  obtain ⟨its, rv, ⟨⟨cls, dd, data, sl⟩, n, ho, hc, hdn, hd⟩, hlen⟩ := I.list hs
  simp only at hc hd
  subst hc hd
  have hi := bools_vals rv
  refine call_meets PySem.F.slot_list_count ⟨_, ho, rfl⟩ PySem.F.entry_list_count (PySem.F.args_list_count_2 _ _)
    (SeqAt.list_countAt p its.toArray n dd sl (.bool k) (eqb k)) ⟨ho, fun y hy => ?_, ?_⟩
  · subst hi
    obtain ⟨z, _, rfl⟩ := List.mem_map.mp (by rw [List.mem_toArray] at hy; exact hy)
    exact PySem.SeqAt.EqAt.bool_bool z k
  · have ec : its.toArray.toList.countP (eqb k) = ns.count k := by subst hi; simpa using eqb_count
    refine ⟨.int (ns.count k : Nat), H, I.tok _, ⟨s.toks, ?_⟩, q⟩
    show Value.int ((its.toArray.toList.countP (eqb k) : Nat) : Int) s.toks = Value.int ((ns.count k : Nat) : Int) s.toks
    rw [ec]
@[simp] def isLi : D → Prop
  | .py (.list _) => True
  | _ => False
@[simp] def gCountB : D → List D → (D → Prop) → Prop
  | .py (.list xs), [.py (.bool k)], Q => ∃ ns, allB xs = some ns ∧ Q (.py (.int (ns.count k : Nat)))
  | _, _, _ => False
theorem mx_cntB {X : Cx} {b : Bg} : MetX X b (RE b) "count" isLi gCountB := fun Z H x d gd rx kd => by
  match d, kd, rx with
  | .py (.list ps), _, rx =>
    obtain ⟨a, us, rfl, ha, _⟩ := rx.list
    refine ⟨_, ⟨"list", _, PySem.F.plainAttrs_list, PySem.F.slot_list_count, PySem.F.type_list_count, mt_lcountB, ty_lst ha⟩, fun H' xs ds Q Qd _ gd' rx' rs h k => ?_⟩
    match ds, h, rs with
    | [.py (.bool c)], ⟨ns, e, h⟩, .cons r .nil =>
      obtain rfl := r.bool
      obtain ⟨a', us', ea, ha', qa'⟩ := rx'.list
      cases ea
      rw [allB_of e] at qa'
      have eu := qa'.bools
      subst eu
      exact ⟨a, ns, c, rfl, rfl, SqL.of ha', k _ H' (.py (.int _)) Ex.refl gd'.g (.int _) h⟩
end VL
set_option Elab.async false
set_option linter.all false
set_option maxRecDepth 100000
set_option maxHeartbeats 4000000
/-! VL40: the law's head for any background; the gear: a list of three numbers that a def draws from -/
namespace VL
open PySem PySem.Spec PyProof.Rows L2
theorem law_restX {B : Bg} {r : Addr} {H : Hp} {N : List Str} {i : Nat} {a : Addr} {t : VS} {Q : VK} {E : XK} (hG : B.G H) (h0 : 0 < N.length) (hi : i < N.length)
    (law : t (envBag N.length i r) (fin isTrue' noE)) (q : ∀ H', Q (.bl true) H') : LS B (WF E) t { nx := fun _ H' => Q .non H', rt := Q } ((L2.start N [.ref a]).set i (some (.ref r))) H := by
  have hl : (L2.start N [V.ref a]).length = N.length := by
    unfold L2.start
    rw [List.length_append, List.length_map, List.length_replicate, List.length_singleton]
    omega
  refine ⟨H, fun _ => False, B.B, B.B, _, _, ⟨⟨hG, fun _ z => z, fun _ z => z, fun a z => B.dom H a hG z, fun _ z => .inl z, fun j d e => ?_, fun j k d e c h1 _ _ _ => ?_, fun j d e => ?_, ?_⟩, fun _ _ e _ _ => e, fun j d c h1 _ => ?_⟩, law, ⟨fun _ _ _ _ _ h => (by cases h), fun v H' d _ _ rp h => ?_, fun _ _ _ _ _ h => h.elim, fun _ _ _ _ _ h => h.elim, fun _ _ _ _ _ _ _ _ _ h => h.elim⟩⟩
  · rcases envBag_at e with h | ⟨_, h⟩ <;> cases h
  · rcases envBag_at h1 with h | ⟨_, h⟩ <;> cases h
  · rcases envBag_at e with h | ⟨ej, h⟩
    · cases h
    · cases h
      subst ej
      exact ⟨.ref r, List.getElem?_set_self (by rw [hl]; exact hi), rfl⟩
  · unfold envBag
    rw [List.length_set, List.length_replicate, List.length_set, hl]
  · rcases envBag_at h1 with h | ⟨_, h⟩ <;> cases h
  · have h' : d = .py (.bool true) := h
    subst h'
    have rp' : Rq B.B H' v (.bool true) := rp
    cases rp'
    exact q H'
section
variable {P : Program} {w : World} {K : PySem.W.Frag} {mg : Str → Option Value} {base : Heap} {k k0 : Nat} {st : Stmt} {f fo : Addr} {fd fdo : FuncData} {N : List Str}
theorem lawX {ι : Type} (Bf : ι → Bg) (rf : ι → Addr) {spO : Sp} {bn on : Str} (hO : ∀ (a : Addr) (ns : List Int) (H : Hp) (Q : VK) (E : XK), SqL K H a (ns.map V.int) → ns.length ≤ 63 → (∀ x H', (Bf x).G H' → Q (.ref (rf x)) H') → spO [.ref a] H Q E) {i : Nat} {t : ι → VS} {p1 p2 p3 p4 p5 : Pos} {rest : List Stmt} {nm : Str} (F : Fun K nm nm st f fd) (Sc : FnScope N ["_law_script"] (defScope st))
    (hst : defBody st = .Assign [.Name bn p1] (.Call (.Name on p2) [.Name "_law_script" p3] [] p4) p5 :: rest)
    (FO : FnOk P w K mg base (L2.CX P w) k0 fo fdo ["_law_script"] spO) (gO : mg on = some (.ref fo)) (kO : PySem.W.keepIn K (.ref fo) = true) (bO : Binds K fdo ["_law_script"] []) (hk : k0 ≤ k) (hdb : (on == ("__debug__" : Str)) = false := by decide)
    (hi : N[i]? = some bn) (h0 : N[0]? = some ("_law_script" : Str)) (hloc : Loc (defScope st) bn) (hloc0 : (defScope st).names.lookup ("_law_script" : Str) = some .local) (hgl : (defScope st).names.lookup on = some .globalImplicit)
    (hbody : ∀ (x : ι) (cdv : Value) (A : Around) (outer : List Env) (s : Shared) (H : Hp) (E : XK), Room k (A.deeper (envOfC nm (defScope st) s.heap.objs.size f cdv)) → (A.deeper (envOfC nm (defScope st) s.heap.objs.size f cdv)).guards = some [] →
      Takes (cxOf (L2.CX P w) P w K mg base N nm (defScope st) f cdv A outer s H E) (WF E) → VSs (cxOf (L2.CX P w) P w K mg base N nm (defScope st) f cdv A outer s H E) (Bf x) (WF E) rest (t x))
    (law : ∀ x, t x (envBag N.length i (rf x)) (fin isTrue' noE)) : FnG P w K mg base (k + 1) f fd ["_law_script"] (spLaw K) := by
  refine fnG F Sc (fun vs H Q E ⟨a, ns, e, _⟩ => by rw [e]; rfl) fun cdv A outer s H vs Q E hr hg ⟨a, ns, ev, hS, hl, q⟩ => ?_
  subst ev
  rw [hst]
  have tk : Takes (cxOf (L2.CX P w) P w K mg base N nm (defScope st) f cdv A outer s H E) (WF E) := takes_of rfl rfl rfl rfl
  have hN0 : 0 < N.length := (List.getElem?_eq_some_iff.mp h0).1
  have hNi : i < N.length := (List.getElem?_eq_some_iff.mp hi).1
  refine ⟨_, pss_cons (ps_set (X := cxOf (L2.CX P w) P w K mg base N nm (defScope st) f cdv A outer s H E) (i := i) Sc.nd hi hloc (pe_callS FO (hr.mono hk) ?_ gO kO bO (fun σ => passAt tk σ) (pa_cons (pe_var h0 (.inl hloc0)) pa_nil) hdb) (by rfl) (.inl rfl))
    (pss_ex fun x => hbody x cdv A outer s H E hr hg tk), ?_⟩
  · exact hgl
  · refine ⟨.ref a, ?_, hO a ns _ _ _ hS hl fun x H' hG => ⟨x, law_restX hG hN0 hNi (law x) q⟩⟩
    unfold L2.start
    rfl
end

/-! ### the gear -/
def gearAt (r : Addr) (H : Hp) : Prop := ∃ x y z : Int, H r = some (.lst [.int x, .int y, .int z])
def gearB (cls : Str → Addr) (r : Addr) : Bg where
  cls := cls
  B := fun a => a = r
  G := fun H => gearAt r H
  loc := fun H H' h _ ⟨x, y, z, e⟩ => ⟨x, y, z, by rw [h r rfl]; exact e⟩
  dom := fun H a ⟨x, y, z, e⟩ h => by
    have h : a = r := h
    subst h
    rw [e]; simp
def KeepG (r : Addr) (H H' : Hp) : Prop := ∀ a o, H a = some o → a ≠ r → H' a = some o
theorem KeepG.ex {cls : Str → Addr} {r : Addr} {H H' : Hp} (k : KeepG r H H') : Ex (gearB cls r) H H' := fun a o e n => k a o e fun h => n h
theorem KeepG.refl {r : Addr} {H : Hp} : KeepG r H H := fun _ _ e _ => e
theorem KeepG.upd {r : Addr} {H H1 : Hp} {o : HO} (h : KeepG r H H1) : KeepG r H (upd H1 r o) := fun a u e n => by rw [upd_ne n]; exact h a u e n
/-- what the def that draws promises -/
def spTooth : Sp := fun vs H Q _ => ∃ r, ∃ m : Int, vs = [.ref r, .int m] ∧ gearAt r H ∧ 0 < m ∧ m < 1073741824 ∧ ∀ H' x, KeepG r H H' → gearAt r H' → 0 ≤ x → x < m → Q (.int x) H'
theorem tooth_v {P : Program} {w : World} {K : PySem.W.Frag} {mg : Str → Option Value} {base : Heap} {k : Nat} {f : Addr} {fd : FuncData} {ps : List Str} {CX : CXT} {cls : Str → Addr} {r : Addr} (h : FnOk P w K mg base CX k f fd ps spTooth) : FnOk P w K mg base CX k f fd ps (spV (gearB cls r) (svTake r)) :=
  h.imp fun vs H Q E ⟨Z, ds, Qd, Ed, g, rp, hh, l, _⟩ => by
    obtain ⟨m, ed, h1, h2, q⟩ := svTake_ex hh
    subst ed
    obtain ⟨x, y, rfl, rx, ry⟩ := rbs2 rp
    have ex : x = .ref r := rx
    have ey : y = .int m := Rb.int (b := gearB cls r) (.inl ry)
    subst ex ey
    exact ⟨r, m, rfl, g.g, h1, h2, fun H' x kp b' x0 x1 => l (.int x) H' (.py (.int x)) kp.ex b' (.int x) (q x x0 x1)⟩
/-- what the def that makes it promises -/
def spGear (K : PySem.W.Frag) : Sp := fun vs H Q _ => ∃ (a : Addr) (ns : List Int), vs = [.ref a] ∧ SqL K H a (ns.map V.int) ∧ ns.length ≤ 63 ∧ ∀ r H', gearAt r H' → Q (.ref r) H'
end VL
set_option Elab.async false
set_option linter.all false
set_option maxRecDepth 100000
set_option maxHeartbeats 2000000
/-! VL41: isinstance with a pair of classes; a promise that nothing may ask -/
namespace VL
open PySem PySem.Spec PyProof.Rows L2
@[simp] def vIsi2 (T1 T2 : String) (t : VT) : VT := fun ρ Q E => t ρ (fun d => ∃ p, d = .py p ∧ ∃ k1 k2, isK T1 p = some k1 ∧ isK T2 p = some k2 ∧ Q (.py (.bool (k1 || k2)))) E
theorem kit_any2 {K : PySem.W.Frag} {p : PyData} {T1 T2 : String} {k1 k2 : Bool} (h1 : isK T1 p = some k1) (h2 : isK T2 p = some k2) : PySem.W.kitAny K (.type (tyName p)) [.type T1, .type T2] = some (k1 || k2) := by
  unfold PySem.W.kitAny
  rw [kit_ty (isi_of h1)]
  cases k1
  · unfold PySem.W.kitAny
    rw [kit_ty (isi_of h2)]
    cases k2 <;> rfl
  · rfl
section
variable {X : Cx} {b : Bg} {W : WX} {T1 T2 : String} {x1 x2 : Str} {e : Expr} {t : VT} {p p1 p2 p3 pos : Pos} {kk : Nat}
theorem ve_isi2 (hg : Gl X "isinstance") (hm : X.mg "isinstance" = none) (he : VX X b W e t) (g1 : Gl X x1) (m1 : X.mg x1 = none) (v1 : bootBuiltins x1 = some (.type T1)) (g2 : Gl X x2) (m2 : X.mg x2 = none) (v2 : bootBuiltins x2 = some (.type T2))
    (n1 : x1 ≠ "__name__" := by decide) (n2 : x2 ≠ "__name__" := by decide) (d1 : (x1 == ("__debug__" : Str)) = false := by decide) (d2 : (x2 == ("__debug__" : Str)) = false := by decide)
    (hs : starEach [e, .Tuple [.Name x1 p1, .Name x2 p2] kk p3] X.env = (false, eval e X.env) :: starEach [.Tuple [.Name x1 p1, .Name x2 p2] kk p3] X.env := by rfl) (hs2 : starEach [.Tuple [.Name x1 p1, .Name x2 p2] kk p3] X.env = (false, eval (.Tuple [.Name x1 p1, .Name x2 p2] kk p3) X.env) :: starEach [] X.env := by rfl) (hpl : (backTo pos (starEach [.Tuple [.Name x1 p1, .Name x2 p2] kk p3] X.env)).any (·.1) = false := by rfl) :
    VE X b W (.Call (.Name "isinstance" p) [e, .Tuple [.Name x1 p1, .Name x2 p2] kk p3] [] pos) (vIsi2 T1 T2 t) :=
  pe_mono (pe_callB call_isiT hg hm bb_isi (pa_cons he (pa_cons (pe_tup (pa_cons (pe_bltn (v := .ty T1) g1 m1 v1 rfl n1 d1) (pa_cons (pe_bltn (v := .ty T2) g2 m2 v2 rfl n2 d2) pa_nil))) pa_nil hs2) hs) (by decide) (by decide) hs hpl) fun σ H Q ⟨Zo, Z, ρ, Qd, Ed, v, q, l, m⟩ => ⟨Zo, Z, ρ, _, Ed, v, q, fun x H1 d x1 g1 r1 ⟨pd, ep, k1, k2, e1, e2, q1⟩ => by
    subst ep
    refine ⟨Nat.le_trans (show 2 ≤ 1000 by decide) (by decide), fun tp htp => ⟨x, tp, [.ty T1, .ty T2], _, [.type T1, .type T2], _, rfl, upd_same, .cons (.ty T1) (.cons (.ty T2) .nil), tyx_of (r1.q.mono (fun _ z => .inl z) (VL.up htp)), kit_any2 e1 e2, l (.bl _) _ (.py (.bool _)) (x1.trans (Ex.new htp)) (Bg.new g1 htp) (Rq.bl _) q1⟩⟩, m⟩
end
/-- no call is promised -/
theorem fnOk_never {P : Program} {w : World} {K : PySem.W.Frag} {mg : Str → Option Value} {base : Heap} {b : Bg} {k : Nat} {f : Addr} {fd : FuncData} {ps : List Str} : FnOk P w K mg base (L2.CX P w) k f fd ps (spV b fun _ _ _ => False) where
  len := fun vs H Q E ⟨_, _, _, _, _, _, h, _⟩ => h.elim
  run := fun A outer s H args us vs Q E hr e0 hb r ⟨_, _, _, _, _, _, h, _⟩ => h.elim
end VL
set_option Elab.async false
set_option linter.all false
set_option maxRecDepth 100000
set_option maxHeartbeats 4000000
/-! VL42: sorted of lists and tuples of ints -/
namespace VL
open PySem PySem.Spec PyProof.Rows L2
/-- sorted(t), a tuple of ints -/
def rSortedTup (K : PySem.W.Frag) : List V → Hp → VK → Prop := fun vs H Q => ∃ (a : Addr) (ns : List Int), vs = [V.ref a] ∧ SqT K H a (ns.map V.int) ∧
  ∀ (ns' : List Int) (p : Addr), ns'.Perm ns → ns'.Pairwise (· ≤ ·) → H p = none → Q (.ref p) (upd H p (.lst (ns'.map V.int)))
section
variable {X : Cx}
theorem cr_sortedTup : CallR X (.builtin "sorted") (rSortedTup X.K) := by
  intro pins s σ H vs us Q I r h
  obtain ⟨a, ns, rfl, hs, q⟩ := h
  obtain ⟨its, rv, ⟨o, ho, hc, n, hd⟩, hz⟩ := I.tuple hs
  rw [Vals.ref1 r]
  have hi := rv.ints
  have hzi : its.length ≤ sizeLine := by rw [← rv.length]; exact hz
  refine Calls.call_function_entry kind_sorted plain_sorted entry_sorted (args_sorted1 _) ?_
  unfold Builtin.«sorted»
  refine wpAny_bind (m := checkCount "sorted" 1 1 _) (wpAny_pure ?_)
  refine wpAny_bind (wpAny_collect_seq a (.inr rfl) ho hc hd (fun h' hk => ?_) (by rw [List.size_toArray]; exact hzi))
  have ei : its.toArray.toList = its := by simp
  rw [ei]
  have I2 : Inv X pins σ H { s with heap := h' } := I.kept (t' := s.toks) hk
  refine wpAny_bind (wpAny_newList ?_ hzi)
  have hoL : (h'.push (seqObj "list" its.toArray 0)).get? h'.objs.size = some (seqObj "list" its.toArray 0) := Heap.get?_push_size _ rfl
  refine wpAny_bind (wpAny_holding (wpAny_call_entry slot_list_sort ⟨_, hoL, rfl⟩ entry_list_sort (SrtO.list_sort_ord SrtO.swo_int hoL hzi (fun h2 => SrtO.ints_sortable hi h2) fun out hs hb => ⟨_, rfl, ?_⟩) (args_list_sort _)))
  obtain ⟨k1, k2, k3⟩ := SrtO.ints_out hi hs hb
  obtain ⟨ep, he'⟩ := PyProof.Rows.sortedHeap_at (vs := its) (out := out.toArray) hoL
  have hlen : ((out.map SrtO.iv).map V.int).length ≤ sizeLine := by
    rw [List.length_map, k2.length_eq]
    rw [List.length_map] at hz
    exact hz
  refine wpAny_pure ⟨_, rfl, ?_⟩
  exact ⟨.ref _, upd H h'.objs.size (.lst ((out.map SrtO.iv).map V.int)), I2.laid (t' := s.toks) (fun b u hu => by
    have hne : b ≠ h'.objs.size := Nat.ne_of_lt (Heap.lt_size hu)
    rw [PyProof.Rows.sortedHeap_old hne (Heap.lt_size (Heap.get?_push_of_some _ hu))]
    exact Heap.get?_push_of_some _ hu) (Nat.le_refl _) ⟨hlen, out, ep, vals_of_ints k1, he'⟩, rfl, q _ _ k2 k3 (I2.hok.fresh (Nat.le_refl _))⟩
end
/-! ### over values -/
theorem perm_sorted_eq : ∀ {xs ys : List Int}, xs.Perm ys → xs.Pairwise (· ≤ ·) → ys.Pairwise (· ≤ ·) → xs = ys
  | [], ys, h, _, _ => h.nil_eq
  | x :: xs, [], h, _, _ => (List.Perm.nil_eq h.symm).symm
  | x :: xs, y :: ys, h, h1, h2 => by
    rw [List.pairwise_cons] at h1 h2
    have e : x = y := by
      have m1 : x ∈ y :: ys := h.mem_iff.mp List.mem_cons_self
      have m2 : y ∈ x :: xs := h.mem_iff.mpr List.mem_cons_self
      rcases List.mem_cons.mp m1 with e | e
      · exact e
      · rcases List.mem_cons.mp m2 with e' | e'
        · exact e'.symm
        · have := h1.1 y e'
          have := h2.1 x e
          omega
    subst e
    rw [perm_sorted_eq (List.perm_cons _ |>.mp h) h1.2 h2.2]
def sortI (ns : List Int) : List Int := ns.mergeSort (fun a b => decide (a ≤ b))
theorem sortI_perm (ns : List Int) : (sortI ns).Perm ns := List.mergeSort_perm _ _
theorem sortI_sorted (ns : List Int) : (sortI ns).Pairwise (· ≤ ·) := by
  have := List.pairwise_mergeSort (le := fun a b : Int => decide (a ≤ b)) (fun a b c h1 h2 => by simp at *; omega) (fun a b => by simp; omega) ns
  exact this.imp fun h => by simpa using h
theorem sortI_eq {ns ms : List Int} (h : ms.Perm ns) (h1 : ms.Pairwise (· ≤ ·)) : ms = sortI ns := perm_sorted_eq (h.trans (sortI_perm ns).symm) h1 (sortI_sorted ns)
@[simp] def gSorted : List D → (D → Prop) → Prop
  | [.py (.list xs)], Q => ∃ ns, allI xs = some ns ∧ Q (.py (.list ((sortI ns).map PyData.int)))
  | [.py (.tuple xs)], Q => ∃ ns, allI xs = some ns ∧ Q (.py (.list ((sortI ns).map PyData.int)))
  | _, _ => False
theorem rd_sorted {K : PySem.W.Frag} {b : Bg} : CalD b (RN b) (fun xs H Q => rSortedI K xs H Q ∨ rSortedTup K xs H Q) gSorted := by
  intro Z H vs ds Q Qd gd rx h k
  match ds, h, rx with
  | [.py (.list xs)], ⟨ns, e, h⟩, rx =>
    obtain ⟨x, rfl, r⟩ := rx.one
    obtain ⟨a, us, rfl, ha, qa⟩ := r.list
    rw [allI_of e] at qa
    have eu := qa.ints
    subst eu
    refine .inl ⟨a, ns, rfl, SqL.of ha, fun ns' p hp hs hn => ?_⟩
    have es := sortI_eq hp hs
    subst es
    exact k _ _ (.py (.list _)) (Ex.new hn) (gd.new hn) ⟨p, rfl, hn, _, upd_same, .of_ints _⟩ h
  | [.py (.tuple xs)], ⟨ns, e, h⟩, rx =>
    obtain ⟨x, rfl, r⟩ := rx.one
    obtain ⟨a, oa, us, rfl, ha, da, na, qa⟩ := r.tuple
    rw [allI_of e] at qa
    have eu := qa.ints
    subst eu
    refine .inr ⟨a, ns, rfl, SqT.th ha, fun ns' p hp hs hn => ?_⟩
    have es := sortI_eq hp hs
    subst es
    exact k _ _ (.py (.list _)) (Ex.new hn) (gd.new hn) ⟨p, rfl, hn, _, upd_same, .of_ints _⟩ h
theorem bb_sorted : bootBuiltins "sorted" = some (.builtin "sorted") := by decide +kernel
section
variable {X : Cx} {b : Bg} {W : WX} {e : Expr} {es : List Expr} {u : VA} {p pos : Pos}
theorem vn_sortedC (hg : Gl X "sorted") (hm : X.mg "sorted" = none) (ha : VXs X b W (e :: es) u) (he : starEach (e :: es) X.env = (false, eval e X.env) :: starEach es X.env := by rfl) (hpl : (backTo pos (starEach es X.env)).any (·.1) = false := by rfl) :
    VN X b W (.Call (.Name "sorted" p) (e :: es) [] pos) (vCal gSorted u) := vn_callB (CallR.or cr_sortedI cr_sortedTup) rd_sorted hg hm bb_sorted ha (by decide) (by decide) he hpl
end
end VL
set_option Elab.async false
set_option linter.all false
set_option maxRecDepth 100000
set_option maxHeartbeats 4000000
/-! VL43: len(set(t)), t a tuple of ints -/
namespace VL
open PySem PySem.Spec PyProof.Rows L2
section
variable {X : Cx}
def tLenSetT (K : PySem.W.Frag) (ta : TE) : TE := fun σ H Q => ta σ H fun x H1 => ∃ (l : Addr) (ns : List Int), x = V.ref l ∧ SqT K H1 l (ns.map V.int) ∧ ns.length < 1000 ∧ ∀ ks : List Int, ks.Nodup → (∀ j, j ∈ ks ↔ j ∈ ns) → Q (.int (ks.length : Nat)) H1
theorem pe_lenSetT {a : Expr} {ta : TE} {p p2 q pos : Pos} (hc : X.calm = true) (hg : Gl X "len") (hm : X.mg "len" = none) (hg2 : Gl X "set") (hm2 : X.mg "set" = none) (ha : PE X a ta)
    (na : starEach [a] X.env = (false, eval a X.env) :: starEach [] X.env := by rfl) : PE X (.Call (.Name "len" p) [.Call (.Name "set" p2) [a] [] q] [] pos) (tLenSetT X.K ta) := by
  refine ⟨fun pins s σ H Q I h => ?_⟩
  refine Call_ (ld_blt I hg hm PySem.boot_len ?_)
  refine PyProof.Rows.callWith_builtin1 (PyProof.Rows.args_cons ?_ rfl) rfl rfl
  refine Call_ (ld_blt I hg2 hm2 PyProof.Rows.boot_set ?_)
  refine PyProof.Rows.callWith_type1 (PyProof.Rows.args_cons (thn (ha.run pins s σ H _ I h) fun v s1 ⟨x, H1, I1, r1, q1⟩ => PyProof.Rows.args_nil ?_) na) na rfl
  obtain ⟨l, ns, rfl, hq, h1, q1⟩ := q1
  cases r1
  obtain ⟨its, r, pl, hz⟩ := I1.tuple hq
  refine call_set_tupI (P := X.prog) ns (I1.ok.hd hc) pl (by simpa using r.ints) (by unfold scanBound; omega) fun h' tk c hS hcn hk => ?_
  refine PyProof.Rows.args_nil ?_
  obtain ⟨o, es, ep, t, ho, hex, hd, _, hnd, hmem, _, hf, hn, _, _⟩ := hS
  have I2 : Inv X pins σ H1 { s1 with heap := h', toks := tk } := I1.kept hk
  have hes : es.size ≤ ns.length := by omega
  refine call_len_set ho hex hd hf (by omega) ⟨.int (es.size : Nat), H1, I2.tok _, ⟨_, rfl⟩, ?_⟩
  have := q1 (es.toList.map L2.keyOf) hnd (fun j => by rw [← hmem j]; simp)
  rw [List.length_map, Array.length_toList] at this
  exact this
end
@[simp] def vLenSet (t : VT) : VT := fun ρ Q E => t ρ (fun d => ∃ xs ns, d = .py (.tuple xs) ∧ allI xs = some ns ∧ ns.length < 1000 ∧ ∀ ks : List Int, ks.Nodup → (∀ j, j ∈ ks ↔ j ∈ ns) → Q (.py (.int (ks.length : Nat)))) E
theorem ve_lenSet {X : Cx} {b : Bg} {W : WX} {a : Expr} {t : VT} {p p2 q pos : Pos} (hc : X.calm = true) (hg : Gl X "len") (hm : X.mg "len" = none) (hg2 : Gl X "set") (hm2 : X.mg "set" = none) (ha : VX X b W a t)
    (na : starEach [a] X.env = (false, eval a X.env) :: starEach [] X.env := by rfl) : VE X b W (.Call (.Name "len" p) [.Call (.Name "set" p2) [a] [] q] [] pos) (vLenSet t) :=
  pe_mono (pe_lenSetT hc hg hm hg2 hm2 ha na) fun σ H Q ⟨Zo, Z, ρ, Qd, Ed, v, q, l, m⟩ => ⟨Zo, Z, ρ, _, Ed, v, q, fun x H1 d x1 g1 r1 ⟨xs, ns, ed, e, hl, q1⟩ => by
    subst ed
    obtain ⟨a, oa, us, rfl, ha, da, na, qa⟩ := r1.tuple
    rw [allI_of e] at qa
    have eu := qa.ints
    subst eu
    exact ⟨a, ns, rfl, SqT.th ha, hl, fun ks h1 h2 => l _ _ (.py (.int _)) x1 g1 (Rq.int _) (q1 ks h1 h2)⟩, m⟩
end VL
set_option Elab.async false
set_option linter.all false
set_option maxRecDepth 100000
set_option maxHeartbeats 4000000
/-! VL44: the jug: a list of a list and two numbers -/
namespace VL
open PySem PySem.Spec PyProof.Rows L2
def jugAt (r l : Addr) (gs : List Int) (H : Hp) : Prop := ∃ x n : Int, H r = some (.lst [.ref l, .int x, .int n]) ∧ H l = some (.lst (gs.map V.int)) ∧ gs.length ≤ 63
theorem jugAt.ne {r l : Addr} {gs : List Int} {H : Hp} (h : jugAt r l gs H) : r ≠ l := fun e => by
  obtain ⟨x, n, h1, h2, _⟩ := h
  subst e
  rw [h1] at h2
  cases gs <;> simp at h2
def jugB (cls : Str → Addr) (r l : Addr) : Bg where
  cls := cls
  B := fun a => a = r ∨ a = l
  G := fun H => ∃ gs, jugAt r l gs H
  loc := fun H H' h _ ⟨gs, x, n, e1, e2, e3⟩ => ⟨gs, x, n, by rw [h r (.inl rfl)]; exact e1, by rw [h l (.inr rfl)]; exact e2, e3⟩
  dom := fun H a ⟨gs, x, n, e1, e2, e3⟩ h => by
    rcases h with rfl | rfl
    · rw [e1]; simp
    · rw [e2]; simp
def KeepJ (r l : Addr) (H H' : Hp) : Prop := ∀ a o, H a = some o → a ≠ r → a ≠ l → H' a = some o
theorem KeepJ.ex {cls : Str → Addr} {r l : Addr} {H H' : Hp} (k : KeepJ r l H H') : Ex (jugB cls r l) H H' := fun a o e n => k a o e (fun h => n (.inl h)) fun h => n (.inr h)
theorem KeepJ.refl {r l : Addr} {H : Hp} : KeepJ r l H H := fun _ _ e _ _ => e
theorem KeepJ.upd {r l p : Addr} {H H1 : Hp} {o : HO} (h : KeepJ r l H H1) (hp : p = r ∨ p = l ∨ H1 p = none) : KeepJ r l H (upd H1 p o) := fun a u e n1 n2 => by
  have e1 := h a u e n1 n2
  rw [upd_ne (fun q => by
    subst q
    rcases hp with q | q | q
    · exact n1 q
    · exact n2 q
    · rw [q] at e1; cases e1)]
  exact e1
def spPour : Sp := fun vs H Q _ => ∃ r l gs, ∃ m : Int, vs = [.ref r, .int m] ∧ jugAt r l gs H ∧ 0 < m ∧ m < 1073741824 ∧ ∀ H' gs' x, KeepJ r l H H' → jugAt r l gs' H' → 0 ≤ x → x < m → Q (.int x) H'
theorem pour_v {P : Program} {w : World} {K : PySem.W.Frag} {mg : Str → Option Value} {base : Heap} {k : Nat} {f : Addr} {fd : FuncData} {ps : List Str} {CX : CXT} {cls : Str → Addr} {r l1 : Addr} (h : FnOk P w K mg base CX k f fd ps spPour) : FnOk P w K mg base CX k f fd ps (spV (jugB cls r l1) (svTake r)) :=
  h.imp fun vs H Q E ⟨Z, ds, Qd, Ed, g, rp, hh, l, _⟩ => by
    obtain ⟨m, ed, h1, h2, q⟩ := svTake_ex hh
    subst ed
    obtain ⟨x, y, rfl, rx, ry⟩ := rbs2 rp
    have ex : x = .ref r := rx
    have ey : y = .int m := Rb.int (b := jugB cls r l1) (.inl ry)
    subst ex ey
    obtain ⟨gs, hb⟩ := g.g
    exact ⟨r, l1, gs, m, rfl, hb, h1, h2, fun H' gs' x kp b' x0 x1 => l (.int x) H' (.py (.int x)) kp.ex ⟨gs', b'⟩ (.int x) (q x x0 x1)⟩
def spJug (K : PySem.W.Frag) : Sp := fun vs H Q _ => ∃ (a : Addr) (ns : List Int), vs = [.ref a] ∧ SqL K H a (ns.map V.int) ∧ ns.length ≤ 63 ∧ ∀ r l H', (∀ c o, H c = some o → H' c = some o) → (∃ gs, jugAt r l gs H') → Q (.ref r) H'
end VL
set_option Elab.async false
set_option linter.all false
set_option maxRecDepth 100000
set_option maxHeartbeats 4000000
/-! VL45: found.append(left.pop(k)), both lists owned -/
namespace VL
open PySem PySem.Spec PyProof.Rows L2
theorem Rqs.getP {Z : Addr → Prop} {H : Hp} : ∀ {vs : List V} {ds : List PyData} {k : Nat} {p : PyData}, Rqs Z H vs ds → ds[k]? = some p → ∃ v, vs[k]? = some v ∧ Rq Z H v p
  | _, _, _, _, .nil, e => by simp at e
  | _, _, 0, _, .cons r _, e => by simp at e; subst e; exact ⟨_, rfl, r⟩
  | _, _, k + 1, _, .cons _ t, e => by
    obtain ⟨v, h1, h2⟩ := Rqs.getP (k := k) t (by simpa using e)
    exact ⟨v, by simpa using h1, h2⟩
theorem Rqs.erase {Z : Addr → Prop} {H : Hp} : ∀ {vs : List V} {ds : List PyData} (k : Nat), Rqs Z H vs ds → Rqs Z H (vs.eraseIdx k) (ds.eraseIdx k)
  | _, _, _, .nil => .nil
  | _, _, 0, .cons _ t => t
  | _, _, k + 1, .cons r t => .cons r (Rqs.erase k t)
@[simp] def sPopApp (i j : Nat) (te : VT) : VS := fun ρ De => ∃ xs ys, ρ[i]? = some (.own (.py (.list xs))) ∧ ρ[j]? = some (.own (.py (.list ys))) ∧ i ≠ j ∧ xs.length < sizeLine ∧ ys.length ≤ sizeLine ∧
  te ρ (fun d => ∃ k : Nat, d = .py (.int (k : Nat)) ∧ ∃ p, ys[k]? = some p ∧ De.nx ((ρ.set j (.own (.py (.list (ys.eraseIdx k))))).set i (.own (.py (.list (xs ++ [p])))))) (De.ex ρ)
section
variable {X : Cx} {b : Bg} {W : WX} {o o2 e : Expr} {i j : Nat} {te : VT} {apos cpos pos apos2 cpos2 : Pos}
theorem vs_popApp (ho : PE X o (tVar i)) (ho2 : PE X o2 (tVar j)) (he : VE X b W e te)
    (hb1 : attributeBase o "append" X.env (eval o X.env) = eval o X.env := by rfl) (hb2 : attributeBase o2 "pop" X.env (eval o2 X.env) = eval o2 X.env := by rfl)
    (hf1 : ((backTo cpos (starEach [.Call (.Attribute o2 "pop" apos2) [e] [] cpos2] X.env)).all (fun x => !x.1) && (backToKw cpos (keywordEach [] X.env)).all (fun x => x.1.isSome)
      && decide (([.Call (.Attribute o2 "pop" apos2) [e] [] cpos2] : List Expr).length + ([] : List Keyword).length + (if ([] : List Keyword).isEmpty then 0 else 1) < 30)) = true := by rfl)
    (hf2 : ((backTo cpos2 (starEach [e] X.env)).all (fun x => !x.1) && (backToKw cpos2 (keywordEach [] X.env)).all (fun x => x.1.isSome)
      && decide ([e].length + ([] : List Keyword).length + (if ([] : List Keyword).isEmpty then 0 else 1) < 30)) = true := by rfl)
    (hl1 : (apos.endLine == cpos.line) = true := by rfl) (hl2 : (apos2.endLine == cpos2.line) = true := by rfl)
    (hs1 : starEach [.Call (.Attribute o2 "pop" apos2) [e] [] cpos2] X.env = (false, eval (.Call (.Attribute o2 "pop" apos2) [e] [] cpos2) X.env) :: starEach [] X.env := by rfl) (hs2 : starEach [e] X.env = (false, eval e X.env) :: starEach [] X.env := by rfl)
    (hp1 : (backTo cpos (starEach [] X.env)).any (·.1) = false := by rfl) (hp2 : (backTo cpos2 (starEach [] X.env)).any (·.1) = false := by rfl)
    (hsw : swapsWith (.Call (.Attribute o "append" apos) [.Call (.Attribute o2 "pop" apos2) [e] [] cpos2] [] cpos) none pos.line X.env = pure false := by rfl) :
    VSt X b W (.Expr (.Call (.Attribute o "append" apos) [.Call (.Attribute o2 "pop" apos2) [e] [] cpos2] [] cpos) pos) (sPopApp i j te) :=
  ps_mono (ps_expr (pe_bm PySem.F.plainAttrs_list PySem.F.slot_list_append PySem.F.type_list_append mt_append ho (pa_cons (pe_bm PySem.F.plainAttrs_list PySem.F.slot_list_pop PySem.F.type_list_pop mt_popAt ho2 (pa_cons he pa_nil hs2) hb2 hf2 hl2 hs2 hp2) pa_nil hs1) hb1 hf1 hl1 hs1 hp1) hsw) fun Dn σ H ⟨H0, M, Zo, Z, ρ, De, f, ⟨xs, ys, e1, e2, nij, zx, zy, q⟩, l⟩ => by
    obtain ⟨a, h1, h2, h3, axs, h4, h5⟩ := f.v.own i _ e1
    obtain ⟨c, g1, g2, g3, cys, g4, g5⟩ := f.v.own j _ e2
    refine ⟨.ref a, h1, .inl ⟨rfl, axs, SqL.of h4⟩, .ref c, g1, .inl ⟨rfl, cys, SqL.of g4⟩, Zo, Z, ρ, _, _, f.v, q, fun v H1 d x1 gg r1 ⟨k, ed, p, hp, q2⟩ => ?_, l.er f⟩
    subst ed
    obtain rfl := Rb.int (b := b) (Z := Z) (H := H1) (.inl r1)
    have f1 := f.ex x1 gg
    obtain ⟨c', g1', g2', g3', cys', g4', g5'⟩ := f1.v.own j _ e2
    rw [g1] at g1'; cases g1'
    obtain ⟨y, hy, ry⟩ := g5'.getP hp
    have hk : k < ys.length := (List.getElem?_eq_some_iff.mp hp).1
    have hlen : cys'.length = ys.length := g5'.length
    have hsl := sizeLine_eq
    have si : seqIndex? (k : Int) cys'.length = some k := by
      rw [seqIndex_of (by omega) (by omega)]; simp
    refine ⟨c, cys', (k : Int), k, y, rfl, rfl, g4', by omega, by omega, si, hy, ?_⟩
    have up_ : ∀ b2 u, H1 b2 = some u → ¬ Z b2 → upd H1 c (.lst (cys'.eraseIdx k)) b2 = some u := fun b2 u ee n => by
      rw [upd_ne (fun w => n (by rw [w]; exact g2))]
      exact ee
    have f2 := f1.mut (d' := .py (.list (ys.eraseIdx k))) e2 g1 ⟨cys'.eraseIdx k, upd_same, (g5'.erase k).mono (fun _ z => .inl z) up_⟩
    have e1' : (ρ.set j (.own (.py (.list (ys.eraseIdx k)))))[i]? = some (.own (.py (.list xs))) := by rw [List.getElem?_set_ne (Ne.symm nij)]; exact e1
    obtain ⟨a2, i1, i2, i3, axs2, i4, i5⟩ := f2.v.own i _ e1'
    rw [h1] at i1; cases i1
    have ry2 : Rq Z (upd H1 c (.lst (cys'.eraseIdx k))) y p := ry.mono (fun _ z => .inl z) up_
    refine ⟨a, axs2, y, rfl, rfl, i4, by rw [i5.length]; exact zx, l.nx _ _ _ _ (f2.mut (d' := .py (.list (xs ++ [p]))) e1' h1 ⟨axs2 ++ [y], upd_same, (i5.append (.cons ry2 .nil)).mono (fun _ z => .inl z) fun b2 u ee n => ?_⟩) q2⟩
    rw [upd_ne (fun w => n (by rw [w]; exact i2))]
    exact ee
end
end VL
set_option Elab.async false
set_option linter.all false
set_option maxRecDepth 100000
set_option maxHeartbeats 4000000
/-! VL46: list(range(n)), tuple(range(n)) -/
namespace VL
open PySem PySem.Spec PyProof.Rows L2
section
variable {X : Cx} {a e : Expr} {ta : TE} {te : L2.St → Hp → (Int → Int → Hp → Prop) → Prop}
def tTupRgF (te : L2.St → Hp → (Int → Int → Hp → Prop) → Prop) : TE := fun σ H Q => te σ H fun a b H1 => RgOk a b ∧ NewT H1 (rgV a b) Q
theorem pe_tupRgF {p pos : Pos} (hc : X.calm = true) (hg : Gl X "tuple") (hm : X.mg "tuple" = none) (he : PRg X e te) (na : starEach [e] X.env = (false, eval e X.env) :: starEach [] X.env := by rfl) : PE X (.Call (.Name "tuple" p) [e] [] pos) (tTupRgF te) := by
  refine ⟨fun pins s σ H Q I h => ?_⟩
  refine Call_ (ld_blt I hg hm boot_tuple (PyProof.Rows.callWith_type1 (args_cons (thn (he pins s σ H _ I h) fun x s1 ⟨r, a, b, t, u, v, H1, ex, hr, I1, ok, q⟩ => args_nil ?_) na) na))
  subst ex
  obtain ⟨b1, b2, b3, b4, b5⟩ := ok
  refine call_tuple_range (n := (b - a).toNat) (I1.ok.hd hc) hr (small_one b1 b2 b3 b4) (rangeSize_nat a b) b5 fun h' tk acc hk hi => ?_
  have I2 : Inv X pins σ H1 { s1 with heap := h', toks := tk } := I1.kept hk
  have hz : (rgV a b).length ≤ sizeLine := by rw [rgV_length, sizeLine_eq]; omega
  have nt := new_th (tk := tk) I2 hz (vals_rg hi) q
  have e : (tob acc.toList) = ({ cls := .type "tuple", data := .seq acc } : Obj) := by unfold tob; rw [Array.toArray_toList]
  rw [e] at nt
  exact nt
end
theorem rgV_ints (n : Int) : rgV 0 n = ((List.range n.toNat).map fun i : Nat => (0 + (i : Int))).map V.int := by unfold rgV; rw [List.map_map, Int.sub_zero]; rfl
theorem rangeP_ints (n : Nat) : rangeP 0 n = ((List.range n).map fun i : Nat => (0 + (i : Int))).map PyData.int := by rw [rangeP_eq, List.map_map]; rfl
@[simp] def vLstRg (t : VT) : VT := fun ρ Q E => t ρ (fun d => ∃ n : Int, d = .py (.int n) ∧ 0 ≤ n ∧ n ≤ 1000000 ∧ Q (.py (.list (rangeP 0 n.toNat)))) E
@[simp] def vTupRg (t : VT) : VT := fun ρ Q E => t ρ (fun d => ∃ n : Int, d = .py (.int n) ∧ 0 ≤ n ∧ n ≤ 1000000 ∧ Q (.py (.tuple (rangeP 0 n.toNat)))) E
section
variable {X : Cx} {b : Bg} {W : WX} {a : Expr} {t : VT} {p p2 q pos : Pos}
theorem vn_listRg (hc : X.calm = true) (hg : Gl X "list") (hm : X.mg "list" = none) (hg2 : Gl X "range") (hm2 : X.mg "range" = none) (ha : VX X b W a t) (na : starEach [a] X.env = (false, eval a X.env) :: starEach [] X.env := by rfl)
    (nb : starEach [.Call (.Name "range" p2) [a] [] q] X.env = (false, eval (.Call (.Name "range" p2) [a] [] q) X.env) :: starEach [] X.env := by rfl) : VN X b W (.Call (.Name "list" p) [.Call (.Name "range" p2) [a] [] q] [] pos) (vLstRg t) :=
  pe_mono (pe_listRg hc hg hm (prg_1 hg2 hm2 ha na) nb) fun σ H Q ⟨Zo, Z, ρ, Qd, Ed, v, qq, l, m⟩ => ⟨Zo, Z, ρ, _, Ed, v, qq, fun x H1 d x1 g1 r1 ⟨n, ed, n0, n1, q1⟩ => by
    subst ed
    obtain rfl := Rb.int (b := b) (Z := Z) (H := H1) r1
    refine ⟨n, rfl, RgOk.of_le (by omega) (by omega) (by omega) (by omega), fun c hc => ?_⟩
    rw [rgV_ints]
    rw [rangeP_ints] at q1
    exact l _ _ (.py (.list _)) (x1.trans (Ex.new hc)) (Bg.new g1 hc) ⟨c, rfl, ((by
      cases e : H c with
      | none => rfl
      | some o =>
        by_cases hb : b.B c
        · exact absurd hc (b.dom _ _ g1 hb)
        · rw [x1 c o e hb] at hc; cases hc) : H c = none), _, upd_same, .of_ints _⟩ q1, m⟩
theorem ve_tupRg (hc : X.calm = true) (hg : Gl X "tuple") (hm : X.mg "tuple" = none) (hg2 : Gl X "range") (hm2 : X.mg "range" = none) (ha : VX X b W a t) (na : starEach [a] X.env = (false, eval a X.env) :: starEach [] X.env := by rfl)
    (nb : starEach [.Call (.Name "range" p2) [a] [] q] X.env = (false, eval (.Call (.Name "range" p2) [a] [] q) X.env) :: starEach [] X.env := by rfl) : VE X b W (.Call (.Name "tuple" p) [.Call (.Name "range" p2) [a] [] q] [] pos) (vTupRg t) :=
  pe_mono (pe_tupRgF hc hg hm (prg_1 hg2 hm2 ha na) nb) fun σ H Q ⟨Zo, Z, ρ, Qd, Ed, v, qq, l, m⟩ => ⟨Zo, Z, ρ, _, Ed, v, qq, fun x H1 d x1 g1 r1 ⟨n, ed, n0, n1, q1⟩ => by
    subst ed
    obtain rfl := Rb.int (b := b) (Z := Z) (H := H1) r1
    refine ⟨n, rfl, RgOk.of_le (by omega) (by omega) (by omega) (by omega), fun c o hc ho => ?_⟩
    rw [rgV_ints]
    rw [rangeP_ints] at q1
    refine l _ _ (.py (.tuple _)) (x1.trans (Ex.new hc)) (Bg.new g1 hc) ?_ q1
    exact Rq.tup upd_same ho ((v.ex x1 g1).fresh hc) (.of_ints _), m⟩
end
end VL
set_option Elab.async false
set_option linter.all false
set_option maxRecDepth 100000
set_option maxHeartbeats 4000000
/-! VL47: x = left.pop(k), left owned -/
namespace VL
open PySem PySem.Spec PyProof.Rows L2
@[simp] def sPopSet (i j : Nat) (te : VT) : VS := fun ρ De => ∃ ys, ρ[j]? = some (.own (.py (.list ys))) ∧ i ≠ j ∧ i < ρ.length ∧ ys.length ≤ sizeLine ∧
  te ρ (fun d => ∃ k : Nat, d = .py (.int (k : Nat)) ∧ ∃ p, ys[k]? = some p ∧ De.nx ((ρ.set j (.own (.py (.list (ys.eraseIdx k))))).set i (.shr (.py p)))) (De.ex ρ)
section
variable {X : Cx} {b : Bg} {W : WX} {o2 e : Expr} {i j : Nat} {x : Str} {te : VT} {pos pos' apos2 cpos2 : Pos}
theorem vs_popSet (hN : X.N.Nodup) (hi : X.N[i]? = some x) (hx : Loc X.env.scope x) (ho2 : PE X o2 (tVar j)) (he : VE X b W e te)
    (hb2 : attributeBase o2 "pop" X.env (eval o2 X.env) = eval o2 X.env := by rfl)
    (hf2 : ((backTo cpos2 (starEach [e] X.env)).all (fun x => !x.1) && (backToKw cpos2 (keywordEach [] X.env)).all (fun x => x.1.isSome)
      && decide ([e].length + ([] : List Keyword).length + (if ([] : List Keyword).isEmpty then 0 else 1) < 30)) = true := by rfl)
    (hl2 : (apos2.endLine == cpos2.line) = true := by rfl) (hs2 : starEach [e] X.env = (false, eval e X.env) :: starEach [] X.env := by rfl) (hp2 : (backTo cpos2 (starEach [] X.env)).any (·.1) = false := by rfl)
    (hs : swapsWith (.Call (.Attribute o2 "pop" apos2) [e] [] cpos2) (some (.Name x pos')) pos.line X.env = pure false := by rfl)
    (hf : X.fn x = true ∨ X.env.scope.names.lookup x = some .local := by first | exact .inl rfl | exact .inr rfl | assumption) :
    VSt X b W (.Assign [.Name x pos'] (.Call (.Attribute o2 "pop" apos2) [e] [] cpos2) pos) (sPopSet i j te) :=
  ps_mono (ps_set hN hi hx (pe_bm PySem.F.plainAttrs_list PySem.F.slot_list_pop PySem.F.type_list_pop mt_popAt ho2 (pa_cons he pa_nil hs2) hb2 hf2 hl2 hs2 hp2) hs hf) fun Dn σ H ⟨H0, M, Zo, Z, ρ, De, f, ⟨ys, e2, nij, hil, zy, q⟩, l⟩ => by
    obtain ⟨c, g1, g2, g3, cys, g4, g5⟩ := f.v.own j _ e2
    refine ⟨.ref c, g1, .inl ⟨rfl, cys, SqL.of g4⟩, Zo, Z, ρ, _, _, f.v, q, fun v H1 d x1 gg r1 ⟨k, ed, p, hp, q2⟩ => ?_, l.er f⟩
    subst ed
    obtain rfl := Rb.int (b := b) (Z := Z) (H := H1) (.inl r1)
    have f1 := f.ex x1 gg
    obtain ⟨c', g1', g2', g3', cys', g4', g5'⟩ := f1.v.own j _ e2
    rw [g1] at g1'; cases g1'
    obtain ⟨y, hy, ry⟩ := g5'.getP hp
    have hk : k < ys.length := (List.getElem?_eq_some_iff.mp hp).1
    have hlen : cys'.length = ys.length := g5'.length
    have hsl := sizeLine_eq
    have si : seqIndex? (k : Int) cys'.length = some k := by
      rw [seqIndex_of (by omega) (by omega)]; simp
    refine ⟨c, cys', (k : Int), k, y, rfl, rfl, g4', by omega, by omega, si, hy, ?_⟩
    have up_ : ∀ b2 u, H1 b2 = some u → ¬ Z b2 → upd H1 c (.lst (cys'.eraseIdx k)) b2 = some u := fun b2 u ee n => by
      rw [upd_ne (fun w => n (by rw [w]; exact g2))]
      exact ee
    have f2 := f1.mut (d' := .py (.list (ys.eraseIdx k))) e2 g1 ⟨cys'.eraseIdx k, upd_same, (g5'.erase k).mono (fun _ z => .inl z) up_⟩
    have ry2 : Rq Z (upd H1 c (.lst (cys'.eraseIdx k))) y p := ry.mono (fun _ z => .inl z) up_
    exact l.nx _ _ _ _ (f2.set (by rw [List.length_set]; exact hil) (d := .py p) ry2) q2
end
end VL
set_option Elab.async false
set_option linter.all false
set_option maxRecDepth 100000
set_option maxHeartbeats 4000000
/-! VL48: xs.insert(i, x), xs owned, i not below 0 -/
namespace VL
open PySem PySem.Spec PyProof.Rows L2
@[simp] def gIns : List PyData → List D → (D → List PyData → Prop) → Prop
  | p, [.py (.int i), .py x], Q => p.length < sizeLine ∧ 0 ≤ i ∧ i < 1000000000 ∧ Q (.py .none) (p.take i.toNat ++ [x] ++ p.drop i.toNat)
  | _, _, _ => False
theorem rd_ins {b : Bg} : MutD b (fun x vs H Q => ∃ (l : Addr) (xs : List V) (i : Int) (y : V), x = .ref l ∧ vs = [.int i, y] ∧ H l = some (.lst xs) ∧ xs.length < sizeLine ∧ 0 ≤ i ∧ i < 2 ^ 63 ∧
    Q .non (upd H l (.lst (xs.take i.toNat ++ [y] ++ xs.drop i.toNat)))) gIns := by
  intro Z H a xs vs p ds Q Qd h rx rv g k
  match ds, g, rv with
  | [.py (.int i), .py x], ⟨hl, h0, h1, q⟩, .cons (v := u) ru (.cons (v := v) rv .nil) =>
    have eu : u = .int i := Rb.int (b := b) (Z := Z) (H := H) (.inl ru)
    subst eu
    exact ⟨a, xs, i, v, rfl, rfl, h, by rw [rx.length]; exact hl, h0, by omega, k _ _ _ (.py .none) (((rx.take _).append (.cons rv .nil)).append (rx.drop _)) (Rq.non : Rq Z H .non .none) q⟩
section
variable {X : Cx} {b : Bg} {W : WX} {o e e2 : Expr} {ta : VA} {i : Nat} {apos cpos pos : Pos}
theorem vs_ins (ho : PE X o (tVar i)) (ha : VAs X b W [e, e2] ta) (hbase : attributeBase o "insert" X.env (eval o X.env) = eval o X.env := by rfl)
    (hfew : ((backTo cpos (starEach [e, e2] X.env)).all (fun x => !x.1) && (backToKw cpos (keywordEach [] X.env)).all (fun x => x.1.isSome)
      && decide ([e, e2].length + ([] : List Keyword).length + (if ([] : List Keyword).isEmpty then 0 else 1) < 30)) = true := by rfl)
    (hline : (apos.endLine == cpos.line) = true := by rfl) (hs : starEach [e, e2] X.env = (false, eval e X.env) :: starEach [e2] X.env := by rfl) (hplain : (backTo cpos (starEach [e2] X.env)).any (·.1) = false := by rfl)
    (hsw : swapsWith (.Call (.Attribute o "insert" apos) [e, e2] [] cpos) none pos.line X.env = pure false := by rfl) :
    VSt X b W (.Expr (.Call (.Attribute o "insert" apos) [e, e2] [] cpos) pos) (sMut i gIns ta) :=
  vs_mut PySem.F.slot_list_insert PySem.F.type_list_insert mt_insert rd_ins ho ha hbase hfew hline hs hplain hsw
end
end VL
set_option Elab.async false
set_option linter.all false
set_option maxRecDepth 100000
set_option maxHeartbeats 4000000
/-! VL49: xs.extend(ys), xs owned, ys a list -/
namespace VL
open PySem PySem.Spec PyProof.Rows L2
@[simp] def gExt : List PyData → List D → (D → List PyData → Prop) → Prop
  | p, [.py (.list z)], Q => p.length + z.length ≤ sizeLine ∧ Q (.py .none) (p ++ z)
  | _, _, _ => False
theorem rd_ext {b : Bg} : MutD b rExtend gExt := by
  intro Z H a xs vs p ds Q Qd h rx rv g k
  match ds, g, rv with
  | [.py (.list z)], ⟨hl, q⟩, .cons (v := u) ru .nil =>
    have ru' : Rq Z H u (.list z) := ru
    cases ru' with
    | lst hb nz rs => exact ⟨a, _, xs, _, rfl, rfl, h, hb, by rw [rx.length, rs.length]; exact hl, k _ _ _ (.py .none) (rx.append rs) (Rq.non : Rq Z H .non .none) q⟩
section
variable {X : Cx} {b : Bg} {W : WX} {o e : Expr} {ta : VA} {i : Nat} {apos cpos pos : Pos}
theorem vs_ext (ho : PE X o (tVar i)) (ha : VAs X b W [e] ta) (hbase : attributeBase o "extend" X.env (eval o X.env) = eval o X.env := by rfl)
    (hfew : ((backTo cpos (starEach [e] X.env)).all (fun x => !x.1) && (backToKw cpos (keywordEach [] X.env)).all (fun x => x.1.isSome)
      && decide ([e].length + ([] : List Keyword).length + (if ([] : List Keyword).isEmpty then 0 else 1) < 30)) = true := by rfl)
    (hline : (apos.endLine == cpos.line) = true := by rfl) (hs : starEach [e] X.env = (false, eval e X.env) :: starEach [] X.env := by rfl) (hplain : (backTo cpos (starEach [] X.env)).any (·.1) = false := by rfl)
    (hsw : swapsWith (.Call (.Attribute o "extend" apos) [e] [] cpos) none pos.line X.env = pure false := by rfl) :
    VSt X b W (.Expr (.Call (.Attribute o "extend" apos) [e] [] cpos) pos) (sMut i gExt ta) :=
  vs_mut PySem.F.slot_list_extend PySem.F.type_list_extend mt_extend rd_ext ho ha hbase hfew hline hs hplain hsw
end
end VL
set_option Elab.async false
set_option linter.all false
set_option maxRecDepth 100000
set_option maxHeartbeats 4000000
/-! VL50: *e among the items of a display or the arguments of a call -/
namespace VL
open PySem PySem.Spec PyProof.Rows L2 StX
@[simp] def vStar (t : VT) (u : VA) : VA := fun ρ Q E => t ρ (fun d => ∃ xs, (d = .py (.tuple xs) ∨ d = .py (.list xs)) ∧ u ρ (fun ds => Q (xs.map D.py ++ ds)) E) E
theorem Rps.app {b : Bg} {Z : Addr → Prop} {H : Hp} : ∀ {u : List V} {d : List D} {v : List V} {e : List D}, Rps b Z H u d → Rps b Z H v e → Rps b Z H (u ++ v) (d ++ e)
  | _, _, _, _, .nil, k => k
  | _, _, _, _, .cons r s, k => .cons r (s.app k)
section
variable {X : Cx} {b : Bg} {W : WX} {e : Expr} {es : List Expr} {t : VT} {u : VA} {p : Pos}
theorem va_star (h : VE X b W e t) (k : VAs X b W es u) (hs : starEach (.Starred e p :: es) X.env = (true, eval e X.env) :: starEach es X.env := by rfl) : VAs X b W (.Starred e p :: es) (vStar t u) :=
  pa_mono (pa_star h k hs) fun σ H Q ⟨Zo, Z, ρ, Qd, Ed, v, q, l, m⟩ => ⟨Zo, Z, ρ, _, Ed, v, q, fun x H1 d x1 g1 r1 ⟨xs, hd, q1⟩ => by
    have v1 := v.ex x1 g1
    rcases hd with rfl | rfl
    · have r1' : Rq Z H1 x (.tuple xs) := r1
      cases r1' with
      | tup ha da na qa =>
        exact ⟨_, _, rfl, .inl (SqT.th ha), Zo, Z, ρ, _, Ed, v1, q1, fun ys H2 ds x2 g2 r2 q2 => l _ H2 _ (x1.trans x2) g2 (Rps.app (v1.rqs x2 qa).to r2) q2, fun c y H2 er x2 g2 r2 q2 => m c y H2 er (x1.trans x2) g2 r2 q2⟩
    · have r1' : Rq Z H1 x (.list xs) := r1
      cases r1' with
      | lst ha na qa =>
        exact ⟨_, _, rfl, .inr (SqL.of ha), Zo, Z, ρ, _, Ed, v1, q1, fun ys H2 ds x2 g2 r2 q2 => l _ H2 _ (x1.trans x2) g2 (Rps.app (v1.rqs x2 qa).to r2) q2, fun c y H2 er x2 g2 r2 q2 => m c y H2 er (x1.trans x2) g2 r2 q2⟩, m⟩
end
end VL
set_option Elab.async false
set_option linter.all false
set_option maxRecDepth 100000
set_option maxHeartbeats 4000000
/-! VL51: sorted of a list of tuples of ints, in the order of tuples -/
namespace VL
open PySem PySem.Spec PyProof.Rows L2
def lexL : List Int → List Int → Bool
  | _, [] => false
  | [], _ :: _ => true
  | x :: xs, y :: ys => if x = y then lexL xs ys else decide (x < y)
theorem lexL_asym : ∀ x y, lexL x y = true → lexL y x = false
  | [], [], h => by simp [lexL] at h
  | _ :: _, [], h => by simp [lexL] at h
  | [], _ :: _, _ => rfl
  | x :: xs, y :: ys, h => by
    unfold lexL at h ⊢
    by_cases e : x = y
    · rw [if_pos e] at h; rw [if_pos e.symm]; exact lexL_asym xs ys h
    · rw [if_neg e] at h; rw [if_neg (Ne.symm e)]; simp at h ⊢; omega
theorem lexL_tr : ∀ x y z, lexL y x = false → lexL z y = false → lexL z x = false
  | [], y, z, h1, h2 => by cases z <;> rfl
  | x :: xs, [], z, h1, h2 => by simp [lexL] at h1
  | x :: xs, y :: ys, [], h1, h2 => by simp [lexL] at h2
  | x :: xs, y :: ys, z :: zs, h1, h2 => by
    unfold lexL at h1 h2 ⊢
    by_cases e1 : y = x
    · subst e1
      rw [if_pos rfl] at h1
      by_cases e2 : z = y
      · subst e2
        rw [if_pos rfl] at h2 ⊢
        exact lexL_tr xs ys zs h1 h2
      · rw [if_neg e2] at h2 ⊢; exact h2
    · rw [if_neg e1] at h1
      by_cases e2 : z = y
      · subst e2
        rw [if_neg e1]; exact h1
      · rw [if_neg e2] at h2
        have a : ¬ y < x := by simpa using h1
        have b : ¬ z < y := by simpa using h2
        rw [if_neg (by omega)]
        exact decide_eq_false (by omega)
theorem lexL_tot : ∀ x y, lexL x y = false → lexL y x = false → x = y
  | [], [], _, _ => rfl
  | _ :: _, [], _, h => by simp [lexL] at h
  | [], _ :: _, h, _ => by simp [lexL] at h
  | x :: xs, y :: ys, h1, h2 => by
    unfold lexL at h1 h2
    by_cases e : x = y
    · subst e
      rw [if_pos rfl] at h1 h2
      rw [lexL_tot xs ys h1 h2]
    · rw [if_neg e] at h1; rw [if_neg (Ne.symm e)] at h2
      simp at h1 h2; omega
/-- a tuple of ints -/
def IsTI (h : Heap) (v : Value) (ns : List Int) : Prop := ∃ a o its n, v = .ref a ∧ h.get? a = some o ∧ o.cls = .type "tuple" ∧ o.data = .seq its n ∧ IntsAre its.toList ns
theorem IsTI.keeps {h h' : Heap} {v : Value} {ns : List Int} (p : IsTI h v ns) (k : ∀ b o, h.get? b = some o → o.cls = .type "tuple" → h'.get? b = some o) : IsTI h' v ns := by
  obtain ⟨a, o, t, n, e, ho, hc, hd, hi⟩ := p
  exact ⟨a, o, t, n, e, k _ _ ho hc, hc, hd, hi⟩
section
variable {prog : Program} {w : World} {A : Around} {s : Shared} {E : Value → Shared → Prop}
theorem kat_ints {fin : Bool} : ∀ {xs ys : List Value} {ns ms : List Int} {i : Nat}, IntsAre xs ns → IntsAre ys ms → (fin = decide (xs.length < ys.length)) →
    PySem.W.KatLex prog w A true fin (fun r s' => s' = s ∧ r = lexL ns ms) (xs.zip ys) i s
  | _, _, _, _, i, .nil, .nil, hf => by exact PySem.W.kat_nil ⟨rfl, hf⟩
  | _, _, _, _, i, .cons n t r, .nil, hf => by exact PySem.W.kat_nil ⟨rfl, by rw [hf]; rfl⟩
  | _, _, _, _, i, .nil, .cons m u q, hf => by exact PySem.W.kat_nil ⟨rfl, by rw [hf]; simp [lexL]⟩
  | _, _, _, _, i, .cons (vs := xs) (ns := ns) n t r, .cons (vs := ys) (ns := ms) m u q, hf => by
    refine PySem.W.kat_cons (SeqAt.EqAt.int_int n t m u prog w _ _ ?_)
    refine PySem.W.kat_go (fun e1 => ?_) (fun e1 => ?_)
    · have ex : n = m := by simpa using e1
      have := kat_ints (fin := fin) (i := i + 1) r q (by rw [hf]; simp)
      refine PySem.W.kat_yes ?_
      have e3 : lexL (n :: ns) (m :: ms) = lexL ns ms := by unfold lexL; rw [if_pos ex]; cases ns <;> cases ms <;> rfl
      rw [e3]
      exact this
    · have ex : ¬ n = m := by simpa using e1
      have e3 : lexL (n :: ns) (m :: ms) = decide (n < m) := by unfold lexL; rw [if_neg ex]
      exact PySem.W.kat_no (TS.oneLt_ints _ ⟨rfl, e3.symm⟩)
theorem swo_ti (k : Value → List Int) : SrtO.Swo fun v u => lexL (k v) (k u) := ⟨fun x y h => lexL_asym _ _ h, fun x y z h1 h2 => lexL_tr _ _ _ h1 h2⟩
theorem firsts_ti {h : Heap} {k : Value → List Int} : ∀ {vs : List Value}, (∀ v ∈ vs, IsTI h v (k v) ∧ k v ≠ []) → ∃ fs : List Value, PySem.W.KatTups h vs fs ∧ fs.length = vs.length ∧ ∀ f ∈ fs, ∃ x t, f = Value.int x t
  | [], _ => ⟨[], PySem.W.KatTups.nil, rfl, fun _ hm => by simp at hm⟩
  | v :: vs, hp => by
    obtain ⟨fs, h1, h2, h3⟩ := firsts_ti (vs := vs) fun v' hm => hp v' (List.mem_cons_of_mem _ hm)
    obtain ⟨⟨a, o, its, n, e, ho, hc, hd, hi⟩, hne⟩ := hp v (List.mem_cons_self ..)
    obtain ⟨its⟩ := its
    cases hi' : its with
    | nil =>
      simp only [hi'] at hi
      cases hk : k v with
      | nil => exact absurd hk hne
      | cons a b => rw [hk] at hi; cases hi
    | cons f r =>
      have hi2 : IntsAre (f :: r) (k v) := by simpa [hi'] using hi
      obtain ⟨x, t, ef⟩ : ∃ x t, f = Value.int x t := SrtO.ints_mem hi2 f List.mem_cons_self
      subst e
      refine ⟨f :: fs, PySem.W.KatTups.cons ho hc hd (by simp [hi']) h1, by rw [List.length_cons, List.length_cons, h2], fun g hm => ?_⟩
      rcases List.mem_cons.mp hm with rfl | hm
      · exact ⟨x, t, ef⟩
      · exact h3 g hm
theorem ti_cmp {vs : List Value} {k : Value → List Int} (hp : ∀ v ∈ vs, IsTI s.heap v (k v)) : SrtO.Cmp prog w A s (tuples' true) (fun p => p.1 ∈ vs) (SrtO.lt2 fun v u => lexL (k v) (k u)) := by
  intro p q hm hm'
  obtain ⟨a, o, its, n, e, ho, hc, hd, hi⟩ := hp _ hm
  obtain ⟨a', o', its', n', e', ho', hc', hd', hi'⟩ := hp _ hm'
  show wpAny (model prog w) A (keyLt' (tuples' true) p.1 q.1) (fun r s' => s' = s ∧ r = lexL (k p.1) (k q.1)) (fun _ _ => False) s
  generalize k p.1 = ns at hi ⊢
  generalize k q.1 = ms at hi' ⊢
  rw [e, e']
  refine PySem.W.kat_lt ho hd ho' hd' ?_
  exact kat_ints hi hi' (by simp)
theorem tis_sortable {a : Addr} {vs : List Value} {k : Value → List Int} (h0 : 0 < vs.length) (hp : ∀ v ∈ vs, IsTI s.heap v (k v) ∧ k v ≠ []) (ha : ∀ o, s.heap.get? a = some o → o.cls ≠ .type "tuple") : SrtO.SortableO prog w A s a vs fun v u => lexL (k v) (k u) := by
  intro h' keep
  have hp' : ∀ v ∈ vs, IsTI h' v (k v) ∧ k v ≠ [] := fun v hm => ⟨(hp v hm).1.keeps fun b o e c => keep b o (fun z => by subst z; exact ha o e c) e, (hp v hm).2⟩
  obtain ⟨fs, h1, h2, h3⟩ := firsts_ti hp'
  refine ⟨tuples' true, fun Q E hq => ?_, ti_cmp fun v hv => (hp' v hv).1⟩
  refine PySem.W.kat_kind (T := .type "int") h1 (by omega) (fun f hm => ?_) (by rfl) ?_
  · obtain ⟨x, t, rfl⟩ := h3 f hm
    exact PySem.W.Looks.now
  · have e : (Value.type "int" != Value.type "tuple") = true := by first | decide +kernel | rfl | decide
    rw [e]
    exact hq
theorem sorted_tis {l : Addr} {vs : List Value} {k : Value → List Int} {Q : Value → Shared → Prop} (hl : s.heap.IsList l vs.toArray) (hz : vs.length ≤ sizeLine) (hp : ∀ v ∈ vs, IsTI s.heap v (k v) ∧ k v ≠ [])
    (h : ∀ (h' : Heap) (d : Addr) (out : List Value), SrtO.Srtd (fun v u => lexL (k v) (k u)) out → SrtO.Stb (fun v u => lexL (k v) (k u)) out vs → (∀ b o, s.heap.get? b = some o → h'.get? b = some o) → s.heap.objs.size ≤ d → (∃ n, h'.get? d = some (seqObj "list" out.toArray n)) → Q (.ref d) { s with heap := h' }) :
    wpAny (model prog w) A (call (.builtin "sorted") [.ref l]) Q E s := by
  refine SrtO.sorted_ord (swo_ti k) hl hz (fun h2 h₁ a ha kk => ?_) fun out hs hb => ?_
  · refine tis_sortable (s := { s with heap := h₁ }) (by omega) (fun v hm => ⟨(hp v hm).1.keeps fun b o e _ => (kk b o e).2, (hp v hm).2⟩) fun o e => ?_
    have e' : some o = some (seqObj "list" vs.toArray 0) := e.symm.trans ha
    cases e'
    intro c
    exact absurd (Value.type.inj c) (by decide)
  · exact h _ _ out hs hb (fun b o e => sortedAll_old e) (Nat.le_succ _) (sortedAll_at s.heap vs out.toArray)
end
def ltK (k : V → List Int) (u v : V) : Bool := lexL (k u) (k v)
theorem ltK_swo (k : V → List Int) : SrtO.Swo (ltK k) := ⟨fun x y h => lexL_asym _ _ h, fun x y z h1 h2 => lexL_tr _ _ _ h1 h2⟩
def rSortedTI (K : PySem.W.Frag) : List V → Hp → VK → Prop := fun vs H Q => ∃ (a : Addr) (xs : List V) (k : V → List Int), vs = [V.ref a] ∧ SqL K H a xs ∧ (∀ x ∈ xs, ∃ t, x = V.ref t ∧ SqT K H t ((k x).map V.int) ∧ k x ≠ []) ∧
  ∀ ys p, SrtO.Srtd (ltK k) ys → ys.Perm xs → H p = none → Q (.ref p) (upd H p (.lst ys))
section
variable {X : Cx}
theorem cr_sortedTI : CallR X (.builtin "sorted") (rSortedTI X.K) := by
  intro pins s σ H vs us Q I r h
  obtain ⟨a, xs, k, rfl, hs, hx, q⟩ := h
  obtain ⟨its, rv, hl, hz⟩ := I.list hs
  obtain ⟨u, rfl, ru⟩ := vals1 r
  obtain rfl : u = Value.ref a := ru
  obtain ⟨e1, e2⟩ := refs_back rv fun x m => by
    obtain ⟨t, e, _⟩ := hx x m
    exact ⟨t, e⟩
  refine sorted_tis (k := fun u => k (backV u)) hl.isList (by rw [← rv.length]; exact hz) (fun v hv => ?_) fun h' d out h1 h2 kp hd hn => ?_
  · obtain ⟨t, rfl⟩ := e2 v hv
    have hm : V.ref t ∈ xs := by rw [e1]; exact List.mem_map.mpr ⟨_, hv, rfl⟩
    obtain ⟨t', e, ht, hne⟩ := hx _ hm
    cases e
    obtain ⟨its2, r2, ⟨o, ho, hc, n, hd⟩, _⟩ := I.tuple ht
    exact ⟨⟨t, o, _, n, rfl, ho, hc, hd, by rw [List.toList_toArray]; exact r2.ints⟩, hne⟩
  · have h3 : ∀ u ∈ out, ∃ a, u = Value.ref a := fun u hu => e2 u (h2.perm.mem_iff.mp hu)
    obtain ⟨n, hn⟩ := hn
    have hb : SrtO.Stb (ltK k) (out.map backV) xs := by
      rw [e1]
      exact SrtO.Stb.map (ltK_swo k) backV h2
    refine ⟨.ref d, upd H d (.lst (out.map backV)), I.laid (t' := s.toks) kp hd ⟨?_, out, n, vals_back h3, hn⟩, rfl, q _ d (SrtO.srtd_map h1) hb.perm (I.hok.fresh hd)⟩
    rw [hb.len]
    exact hz
end
/-! ### over values -/
def sortT (L : List (List Int)) : List (List Int) := L.mergeSort fun a b => !lexL b a
theorem sortT_perm (L : List (List Int)) : (sortT L).Perm L := List.mergeSort_perm _ _
theorem sortT_sorted (L : List (List Int)) : (sortT L).Pairwise fun a b => lexL b a = false := by
  have := List.pairwise_mergeSort (le := fun a b : List Int => !lexL b a) (fun a b c h1 h2 => by
    simp only [Bool.not_eq_true'] at *
    exact lexL_tr _ _ _ h1 h2) (fun a b => by
    cases h : lexL b a with
    | false => rfl
    | true => rw [lexL_asym _ _ h]; rfl) L
  exact this.imp fun h => by simpa using h
theorem lex_perm_eq : ∀ {xs ys : List (List Int)}, xs.Perm ys → xs.Pairwise (fun a b => lexL b a = false) → ys.Pairwise (fun a b => lexL b a = false) → xs = ys
  | [], ys, h, _, _ => h.nil_eq
  | x :: xs, [], h, _, _ => (List.Perm.nil_eq h.symm).symm
  | x :: xs, y :: ys, h, h1, h2 => by
    rw [List.pairwise_cons] at h1 h2
    have e : x = y := by
      have m1 : x ∈ y :: ys := h.mem_iff.mp List.mem_cons_self
      have m2 : y ∈ x :: xs := h.mem_iff.mpr List.mem_cons_self
      rcases List.mem_cons.mp m1 with e | e
      · exact e
      · rcases List.mem_cons.mp m2 with e' | e'
        · exact e'.symm
        · exact lexL_tot _ _ (h2.1 x e) (h1.1 y e')
    subst e
    rw [lex_perm_eq (List.perm_cons _ |>.mp h) h1.2 h2.2]
theorem sortT_eq {L M : List (List Int)} (h : M.Perm L) (h1 : M.Pairwise fun a b => lexL b a = false) : M = sortT L := lex_perm_eq (h.trans (sortT_perm L).symm) h1 (sortT_sorted L)
@[simp] def gSortedT : List D → (D → Prop) → Prop
  | [.py (.list xs)], Q => ∃ L : List (List Int), xs = L.map tI ∧ (∀ l ∈ L, l ≠ []) ∧ Q (.py (.list ((sortT L).map tI)))
  | _, _ => False
theorem Rqs.each {Z : Addr → Prop} {H : Hp} {f : V → PyData} : ∀ {ys : List V}, (∀ y ∈ ys, Rq Z H y (f y)) → Rqs Z H ys (ys.map f)
  | [], _ => .nil
  | y :: ys, h => .cons (h y List.mem_cons_self) (Rqs.each fun z hz => h z (List.mem_cons_of_mem _ hz))
theorem keyFn {Z : Addr → Prop} {H : Hp} : ∀ {us : List V} {L : List (List Int)}, Rqs Z H us (L.map tI) → ∃ k : V → List Int, us.map k = L ∧ ∀ u ∈ us, Rq Z H u (tI (k u)) := by
  intro us L h
  classical
  refine ⟨fun u => if hu : ∃ ns, Rq Z H u (tI ns) then hu.choose else [], ?_⟩
  have uniq : ∀ {u : V} {a b : List Int}, Rq Z H u (tI a) → Rq Z H u (tI b) → a = b := fun {u a b} h1 h2 => by
    cases h1 with
    | tup e1 d1 n1 q1 =>
      cases h2 with
      | tup e2 d2 n2 q2 =>
        have e := e1.symm.trans e2
        injection e with e
        injection e with _ e
        injection e with e
        have h1 := q1.ints
        have h2 := q2.ints
        rw [h1, h2] at e
        exact (map_inj fun x y h => by injection h).mp e
  have key : ∀ {us : List V} {L : List (List Int)}, Rqs Z H us (L.map tI) → us.map (fun u => if hu : ∃ ns, Rq Z H u (tI ns) then hu.choose else []) = L ∧ ∀ u ∈ us, ∃ ns, Rq Z H u (tI ns) := by
    intro us
    induction us with
    | nil =>
      intro L h
      cases L with
      | nil => exact ⟨rfl, by simp⟩
      | cons l L => cases h
    | cons u us ih =>
      intro L h
      cases L with
      | nil => cases h
      | cons l L =>
        rw [List.map_cons] at h
        cases h with
        | cons r t =>
          obtain ⟨h1, h2⟩ := ih t
          have hu : ∃ ns, Rq Z H u (tI ns) := ⟨l, r⟩
          refine ⟨?_, fun v hv => ?_⟩
          · rw [List.map_cons, h1, dif_pos hu, uniq hu.choose_spec r]
          · rcases List.mem_cons.mp hv with rfl | hv
            · exact hu
            · exact h2 v hv
  obtain ⟨h1, h2⟩ := key h
  refine ⟨h1, fun u hu => ?_⟩
  have := h2 u hu
  simp only [dif_pos this]
  exact this.choose_spec
theorem rd_sortedT {K : PySem.W.Frag} {b : Bg} : CalD b (RN b) (rSortedTI K) gSortedT := by
  intro Z H vs ds Q Qd gd rx h k
  match ds, h, rx with
  | [.py (.list xs)], ⟨L, e, hne, h⟩, rx =>
    obtain ⟨x, rfl, r⟩ := rx.one
    obtain ⟨a, us, rfl, ha, qa⟩ := r.list
    rw [e] at qa
    obtain ⟨κ, hk1, hk2⟩ := keyFn qa
    refine ⟨a, us, κ, rfl, SqL.of ha, fun u hu => ?_, fun ys p hs hp hn => ?_⟩
    · have := hk2 u hu
      have hm : κ u ∈ L := by rw [← hk1]; exact List.mem_map_of_mem hu
      cases this with
      | tup e1 d1 n1 q1 =>
        have := q1.ints
        subst this
        exact ⟨_, rfl, SqT.th e1, hne _ hm⟩
    · have eL : ys.map κ = sortT L := by
        refine sortT_eq (by have := hp.map κ; rwa [hk1] at this) ?_
        rw [List.pairwise_map]
        exact hs
      refine k _ _ (.py (.list ((sortT L).map tI))) (Ex.new hn) (gd.new hn) ⟨p, rfl, hn, ys, upd_same, ?_⟩ h
      rw [← eL, List.map_map]
      have := Rqs.each (f := tI ∘ κ) fun y hy => hk2 y (hp.mem_iff.mp hy)
      exact this.up' hn
section
variable {X : Cx} {b : Bg} {W : WX} {e : Expr} {es : List Expr} {u : VA} {p pos : Pos}
theorem vn_sortedT (hg : Gl X "sorted") (hm : X.mg "sorted" = none) (ha : VXs X b W (e :: es) u) (he : starEach (e :: es) X.env = (false, eval e X.env) :: starEach es X.env := by rfl) (hpl : (backTo pos (starEach es X.env)).any (·.1) = false := by rfl) :
    VN X b W (.Call (.Name "sorted" p) (e :: es) [] pos) (vCal gSortedT u) := vn_callB cr_sortedTI rd_sortedT hg hm bb_sorted ha (by decide) (by decide) he hpl
end
end VL
set_option Elab.async false
set_option linter.all false
set_option maxRecDepth 100000
set_option maxHeartbeats 4000000
/-! VL52: defs that show values (repr within a def): called where nothing is being shown -/
namespace VL
open PySem PySem.Spec PyProof.Rows L2
structure FnL (P : Program) (w : World) (K : PySem.W.Frag) (mg : Str → Option Value) (base : Heap) (k : Nat) (f : Addr) (fd : FuncData) (ps : List Str) (sp : Sp) : Prop where
  len : ∀ vs H Q E, sp vs H Q E → vs.length = ps.length
  g : FnG P w K mg base k f fd ps sp
section
variable {P : Program} {w : World} {K : PySem.W.Frag} {mg : Str → Option Value} {base : Heap} {b : Bg} {k : Nat} {f : Addr} {fd : FuncData} {N ps : List Str} {S : SV} {st : Stmt} {x qual : Str}
theorem fnVG (F : Fun K x qual st f fd) (Sc : FnScope N ps (defScope st)) {t : VS} (hlen : ∀ ds Q E, S ds Q E → ds.length = ps.length) (hps : ps.length ≤ N.length)
    (hbody : ∀ (cdv : Value) (A : Around) (outer : List Env) (s : Shared) (H : Hp) (E : XK), Room k (A.deeper (envOfC qual (defScope st) s.heap.objs.size f cdv)) → (A.deeper (envOfC qual (defScope st) s.heap.objs.size f cdv)).guards = some [] →
      Takes (cxOf (L2.CX P w) P w K mg base N qual (defScope st) f cdv A outer s H E) (WF E) → VSs (cxOf (L2.CX P w) P w K mg base N qual (defScope st) f cdv A outer s H E) b (WF E) (defBody st) t)
    (hlaw : ∀ ds Q E, S ds Q E → t (envOf N.length ds) (fin Q E)) : FnL P w K mg base (k + 1) f fd ps (spV b S) := by
  have len : ∀ vs H Q E, spV b S vs H Q E → vs.length = ps.length := fun vs H Q E ⟨Z, ds, Qd, Ed, g, r, s, _⟩ => r.length.trans (hlen ds Qd Ed s)
  exact ⟨len, fnG F Sc len fun cdv A outer s H vs Q E hr hgd h => ⟨_, hbody cdv A outer s H E hr hgd (takes_of rfl rfl rfl rfl), fin_link hlaw (Nat.le_trans (Nat.le_of_eq (len _ _ _ _ h)) hps) h⟩⟩
end
structure CalG (P : Program) (w : World) (K : PySem.W.Frag) (mg : Str → Option Value) (base : Heap) (b : Bg) (k : Nat) (x : Str) (ps : List Str) (S : SV) where
  f : Addr
  fd : FuncData
  F : FnL P w K mg base k f fd ps (spV b S)
  g : mg x = some (.ref f)
  kp : PySem.W.keepIn K (.ref f) = true
  bd : Binds K fd ps []
section
variable {X : Cx} {b : Bg} {W : WX} {k j : Nat} {f : Addr} {fd : FuncData} {ps : List Str} {S : SV} {x : Str} {e : Expr} {es : List Expr} {u : VA} {p pos : Pos} {sp : Sp} {E : L2.St → XK} {t : TA}
theorem FnG.mono {P : Program} {w : World} {K : PySem.W.Frag} {mg : Str → Option Value} {base : Heap} {j k : Nat} {f : Addr} {fd : FuncData} {ps : List Str} {sp : Sp} (F : FnG P w K mg base j f fd ps sp) (h : j ≤ k) : FnG P w K mg base k f fd ps sp :=
  ⟨fun A outer s H args us vs Q E hr => F.run A outer s H args us vs Q E (hr.mono h)⟩
theorem run_fnL {pins : List (Addr × Obj)} {σ : L2.St} {H : Hp} {s : Shared} {Q : VK} {us : List Value} {vs : List V} {E : XK} (F : FnL X.prog X.w X.K X.mg X.base k f fd ps sp) (hr : Room k X.A) (hgd : X.A.guards = some []) (hb : Binds X.K fd ps []) (hx : PassesAt (L2.CX X.prog X.w) X σ E)
    (I : Inv X pins σ H s) (r : Vals vs us) (h : sp vs H Q E) : wpAny (model X.prog X.w) X.A (call (.ref f) us) (EP X pins σ Q) X.xe s := by
  have hl : us.length = ps.length := by rw [← r.length]; exact F.len _ _ _ _ h
  have b := hb s us I.kIn (by rw [List.append_nil]; exact hl)
  rw [List.append_nil] at b
  refine wpAny_call (codeAny_mono (F.g.run X.A X.stack s H ⟨us, []⟩ us vs Q E hr hgd I.env0 b r h) fun r s' hq => ?_)
  cases r with
  | error e => exact hx pins H s e s' I hq
  | ok fl =>
    cases fl with
    | ret u => exact I.after hq
    | next => exact False.elim hq
    | brk => exact False.elim hq
    | cont => exact False.elim hq
theorem pe_callL (F : FnL X.prog X.w X.K X.mg X.base k f fd ps sp) (hr : Room k X.A) (hgd : X.A.guards = some []) (hg : Gl X x) (hm : X.mg x = some (.ref f)) (hk : PySem.W.keepIn X.K (.ref f) = true) (hb : Binds X.K fd ps []) (hx : ∀ σ, PassesAt (L2.CX X.prog X.w) X σ (E σ))
    (ha : PA X (e :: es) t) (hdb : (x == ("__debug__" : Str)) = false := by decide) (he : starEach (e :: es) X.env = (false, eval e X.env) :: starEach es X.env := by rfl) (hpl : (backTo pos (starEach es X.env)).any (·.1) = false := by rfl) :
    PE X (.Call (.Name x p) (e :: es) [] pos) (tCallS sp E t) := by
  refine ⟨fun pins s σ H Q I h => ?_⟩
  refine wpAny_Call_Name_kw (ld_glob I hg hm ?_ hdb)
  refine PySem.W.callWith_K (h₀ := X.base) I.ok.mod.kin hk (thn (ha.run pos pins s σ H _ I h) fun us s1 ⟨vs, H1, I1, r, q⟩ => ⟨I1.kIn, ?_⟩) he hpl
  exact run_fnL F hr hgd hb (hx σ) I1 r q
theorem ve_calG (c : CalG X.prog X.w X.K X.mg X.base b k x ps S) (hgd : X.A.guards = some []) (hr : Room j X.A) (tk : Takes X W) (hg : Gl X x) (ha : VAs X b W (e :: es) u) (hk : k ≤ j := by decide) (hdb : (x == ("__debug__" : Str)) = false := by decide)
    (he : starEach (e :: es) X.env = (false, eval e X.env) :: starEach es X.env := by rfl) (hpl : (backTo pos (starEach es X.env)).any (·.1) = false := by rfl) : VE X b W (.Call (.Name x p) (e :: es) [] pos) (vCall S u) :=
  pe_mono (pe_callL c.F (hr.mono hk) hgd hg c.g c.kp c.bd (passAt tk) ha hdb he hpl) (call_core rfl rfl)
end
end VL
set_option Elab.async false
set_option linter.all false
set_option maxRecDepth 100000
set_option maxHeartbeats 4000000
/-! VL53: is True, is not True of bools -/
namespace VL
open PySem PySem.Spec PyProof.Rows L2
@[simp] def gIsB (neg : Bool) : D → D → (D → Prop) → Prop
  | .py (.bool a), .py (.bool b), Q => Q (.py (.bool (neg ^^ decide (a = b))))
  | _, _, _ => False
section
variable {X : Cx} {b : Bg} {W : WX} {e1 e2 : Expr} {t1 t2 : VT} {pos : Pos}
theorem rd_isB : OpD b (RE b) rIsB (gIsB false) := by
  intro Z H x y dx dy Q Qd gd rx ry h k
  match dx, dy, h, rx, ry with
  | .py (.bool a), .py (.bool c), h, rx, ry =>
    have h1 := rx.q
    have h2 := ry.q
    cases h1; cases h2
    exact ⟨a, c, rfl, rfl, k _ H (.py (.bool _)) Ex.refl gd.g (.bl _) (by simpa using h)⟩
theorem rd_notB : OpD b (RE b) rNotB (gIsB true) := by
  intro Z H x y dx dy Q Qd gd rx ry h k
  match dx, dy, h, rx, ry with
  | .py (.bool a), .py (.bool c), h, rx, ry =>
    have h1 := rx.q
    have h2 := ry.q
    cases h1; cases h2
    exact ⟨a, c, rfl, rfl, k _ H (.py (.bool _)) Ex.refl gd.g (.bl _) (by simpa using h)⟩
theorem ve_isB (h1 : VX X b W e1 t1) (h2 : VX X b W e2 t2) : VE X b W (.Compare e1 [.Is] [e2] pos) (vBin (gIsB false) t1 t2) := ve_cmp op_isBl rd_isB h1 h2 (nobehind _ (by decide) (by decide))
theorem ve_notB (h1 : VX X b W e1 t1) (h2 : VX X b W e2 t2) : VE X b W (.Compare e1 [.IsNot] [e2] pos) (vBin (gIsB true) t1 t2) := ve_cmp op_notBl rd_notB h1 h2 (nobehind _ (by decide) (by decide))
theorem vt_isB (h1 : VX X b W e1 t1) (h2 : VX X b W e2 t2) : VTe X b W (.Compare e1 [.Is] [e2] pos) (vTst (vBin (gIsB false) t1 t2)) := vt_cmp op_isBl rd_isB h1 h2 (nobehind _ (by decide) (by decide))
theorem vt_notB (h1 : VX X b W e1 t1) (h2 : VX X b W e2 t2) : VTe X b W (.Compare e1 [.IsNot] [e2] pos) (vTst (vBin (gIsB true) t1 t2)) := vt_cmp op_notBl rd_notB h1 h2 (nobehind _ (by decide) (by decide))
end
end VL
set_option Elab.async false
set_option linter.all false
set_option maxRecDepth 100000
set_option maxHeartbeats 4000000
/-! VL54: list(text) -/
namespace VL
open PySem PySem.Spec PyProof.Rows L2
theorem vals_signs : ∀ {xs : List Nat} {l : List Value}, l.length = xs.length → (∀ (j : Nat) (v : Value), l[j]? = some v → ∃ c u, xs[j]? = some c ∧ v = Value.str ⟨#[c]⟩ u) → Vals (xs.map fun c => V.str (mkS [c])) l
  | [], [], _, _ => Paired.nil
  | [], _ :: _, h, _ => by simp at h
  | _ :: _, [], h, _ => by simp at h
  | x :: xs, v :: l, h, hp => by
    obtain ⟨c, u, h1, h2⟩ := hp 0 v rfl
    have : x = c := by simpa using h1
    subst this
    exact Paired.cons (show RelV (V.str (mkS [x])) v from ⟨u, h2⟩) (vals_signs (by simpa using h) fun j v' hv => by
      obtain ⟨c, u, h3, h4⟩ := hp (j + 1) v' (by simpa using hv)
      exact ⟨c, u, by simpa using h3, h4⟩)
def rLstS : List V → Hp → VK → Prop := fun vs H Q => ∃ x : Str, vs = [V.str x] ∧ x.length ≤ sizeLine ∧ ∀ l, H l = none → Q (.ref l) (upd H l (.lst ((sl x).map fun c => V.str (mkS [c]))))
section
variable {X : Cx}
theorem cr_listS (hc : X.calm = true) : CallR X (.type "list") rLstS := by
  intro pins s σ H vs us Q I r h
  obtain ⟨x, rfl, hl, q⟩ := h
  obtain ⟨u, rfl, ru⟩ := vals1 r
  obtain ⟨t, rfl⟩ := ru
  have hh : X.A.handled = none := I.ok.hd hc
  refine call_list_str hh x t (fun h' tk acc c kp e hacc => ?_) hl
  have hv : Vals ((sl x).map fun c => V.str (mkS [c])) acc.toList := vals_signs (by
    rw [Array.length_toList, hacc.1]; rfl) fun j v hv => by
    obtain ⟨c, u, h1, h2⟩ := hacc.2 j v (by simpa using hv)
    exact ⟨c, u, by simpa [sl] using h1, h2⟩
  refine ⟨.ref s.heap.objs.size, _, I.laid (t' := tk) kp (Nat.le_refl _) (show ObjOk X.prog X.w _ h' _ (.lst _) from ⟨?_, acc.toList, c, hv, by simpa using e⟩), rfl, q _ (I.hok.fresh (Nat.le_refl _))⟩
  rw [List.length_map]
  exact hl
end
@[simp] def gListA : List D → (D → Prop) → Prop
  | [.py (.list xs)], Q => Q (.py (.list xs))
  | [.py (.tuple xs)], Q => Q (.py (.list xs))
  | [.py (.str z)], Q => z.length ≤ sizeLine ∧ Q (.py (.list (signsD z)))
  | _, _ => False
theorem rd_listA {K : PySem.W.Frag} {b : Bg} : CalD b (RN b) (fun xs H Q => (fun xs H Q => ∃ p ys, xs = [.ref p] ∧ (SqL K H p ys ∨ SqT K H p ys) ∧ ∀ l, H l = none → Q (.ref l) (upd H l (.lst ys))) xs H Q ∨ rLstS xs H Q) gListA := by
  intro Z H vs ds Q Qd gd rx h k
  match ds, h, rx with
  | [.py (.list xs)], h, rx => exact .inl (rd_list Z H vs [.py (.list xs)] Q Qd gd rx h k)
  | [.py (.tuple xs)], h, rx => exact .inl (rd_list Z H vs [.py (.tuple xs)] Q Qd gd rx h k)
  | [.py (.str z)], ⟨hl, h⟩, rx =>
    obtain ⟨x, rfl, r⟩ := rx.one
    have r' := r.q
    cases r'
    refine .inr ⟨z, rfl, hl, fun l hn => ?_⟩
    refine k _ _ (.py (.list (signsD z))) (Ex.new hn) (gd.new hn) ⟨l, rfl, hn, _, upd_same, ?_⟩ h
    exact rqs_signs (x := z)
section
variable {X : Cx} {b : Bg} {W : WX} {e : Expr} {es : List Expr} {u : VA} {p pos : Pos}
theorem vn_listA (hc : X.calm = true) (hg : Gl X "list") (hm : X.mg "list" = none) (ha : VXs X b W (e :: es) u) (he : starEach (e :: es) X.env = (false, eval e X.env) :: starEach es X.env := by rfl) (hpl : (backTo pos (starEach es X.env)).any (·.1) = false := by rfl) :
    VN X b W (.Call (.Name "list" p) (e :: es) [] pos) (vCal gListA u) := vn_callTy (CallR.or call_list_of (cr_listS hc)) rd_listA hg hm bb_list ha (by decide) (by decide) he hpl
end
end VL
set_option Elab.async false
set_option linter.all false
set_option maxRecDepth 100000
set_option maxHeartbeats 4000000
/-! VL55: () * k -/
namespace VL
open PySem PySem.Spec PyProof.Rows L2
open AutoSeq1 (wpAny_loadPart')
theorem tuple_mul0 (l : Addr) (n : Nat) (dd : Option Addr) (sl : Array (Option Value)) (x : Int) (u : Tok) (c0 : (decide (x < -(2 ^ 63)) || decide (x ≥ 2 ^ 63)) = false) :
    Meets (Builtin.«tuple.__mul__» ⟨[.ref l, .int x u], []⟩) (fun _ R s => s.heap.get? l = some { cls := .type "tuple", dict := dd, data := .seq #[] n, slots := sl } ∧ R (.ok (.ret (Value.ref l))) s) :=
  .of_wp fun prog w A R s h => by
    obtain ⟨hp, g, d, tk, os⟩ := s
    obtain ⟨hl, h⟩ := h
    have f1 := AutoSeq1.idx_int
    wp_walk using wpAny_loadPart' hl
    repeat (first
      | (refine wpAny_ite_false (decide_eq_false (by rw [c0]; exact Bool.false_ne_true)) ?_; wp_walk using wpAny_loadPart' hl))
    exact ⟨_, rfl, h⟩
def rRep0 (K : PySem.W.Frag) : R2 := fun x y H Q => ∃ l k, x = .ref l ∧ y = .int k ∧ SqT K H l [] ∧ 0 ≤ k ∧ k ≤ 1000 ∧ Q (.ref l) H
section
variable {X : Cx}
theorem op_rep0 : OpR X (binaryOp .Mult) (rRep0 X.K) := by
  intro pins s σ H x y v u Q I rx ry ⟨l, k, ex, ey, hT, h2, h3, q⟩
  subst ex ey
  obtain rfl : v = .ref l := rx
  obtain ⟨t, rfl⟩ := ry
  obtain ⟨its, r, ⟨o, ho, hc, n, hd⟩, hs⟩ := I.tuple hT
  obtain ⟨oc, dd, dt, slt⟩ := o
  obtain rfl : oc = .type "tuple" := hc
  obtain rfl : dt = .seq its.toArray n := hd
  cases r
  have road := tuple_mul0 l n dd slt k t (by simp; omega)
  refine wpAny_binaryOp_repeat_ref (U := "int") (T := "tuple") (by decide) ⟨_, ho, rfl⟩ (typeIs_int · k t) noFill_tuple_mul F.fills_int_mul F.slot_int_rmul repeat_tuple F.slot_int_index.lookup ?_
  refine call_meets F.slot_int_rmul (typeIs_int s k t) F.entry_int_rmul (F.args_int_rmul_2 _ _) (int_rmul_tuple k t l _ n dd slt) ⟨ho, rfl, ⟨_, ho, rfl⟩, ?_⟩
  exact call_meets F.slot_tuple_mul ⟨_, ho, rfl⟩ F.entry_tuple_mul (F.args_tuple_mul_2 _ _) road ⟨ho, ⟨.ref l, H, I, rfl, q⟩⟩
end
section
variable {X : Cx} {b : Bg} {W : WX} {e1 e2 : Expr} {t1 t2 : VT} {pos : Pos}
/-- .. of a tuple that may be empty -/
@[simp] def gMulT : D → D → (D → Prop) → Prop
  | .py (.tuple xs), .py (.int k), Q => (0 ≤ k ∧ 2 ≤ k ∧ k ≤ 1000 ∧ xs.length ≤ 1000) ∧ Q (.py (.tuple (List.replicate k.toNat xs).flatten))
  | _, _, _ => False
theorem rd_mulT : OpD b (RE b) (fun x y H Q => rRepF X.K x y H Q ∨ rRep0 X.K x y H Q) gMulT := by
  intro Z H x y dx dy Q Qd gd rx ry h k
  match dx, dy, h, rx, ry with
  | .py (.tuple xs), .py (.int n), ⟨⟨h0, h1, h2, h3⟩, h⟩, rx, ry =>
    have ey := ry.int
    obtain ⟨a, oa, us, rfl, ha, da, na, qa⟩ := rx.tuple
    cases xs with
    | nil =>
      cases qa
      have e : (List.replicate n.toNat ([] : List PyData)).flatten = [] := by
        rw [List.flatten_eq_nil_iff]; intro l hl; exact List.eq_of_mem_replicate hl
      rw [e] at h
      exact .inr ⟨a, n, rfl, ey, SqT.th ha, h0, h2, k _ H (.py (.tuple [])) Ex.refl gd.g (.tup ha da na .nil) h⟩
    | cons c cs =>
      refine .inl ⟨a, n, us, rfl, ey, SqT.th ha, fun e => ?_, h1, h2, by rw [qa.length]; exact h3, fun p o hp ho => k _ _ (.py (.tuple _)) (Ex.new hp) (gd.new hp) (.tup upd_same ho (gd.fresh hp) ?_) h⟩
      · subst e; cases qa
      · exact (qa.rep n.toNat).up hp
theorem ve_mulT (h1 : VX X b W e1 t1) (h2 : VX X b W e2 t2) : VE X b W (.BinOp e1 .Mult e2 pos) (vBin gMulT t1 t2) := ve_op (OpR.or op_repF op_rep0) rd_mulT h1 h2
end
end VL
set_option Elab.async false
set_option linter.all false
set_option maxRecDepth 100000
set_option maxHeartbeats 4000000
/-! VL56: a sign in a text -/
namespace VL
open PySem PySem.Spec PyProof.Rows L2 HT
open Builtin.Str in
theorem occ_full (z : Str) (c k lim : Nat) (st : Array Nat × Nat) (h2 : ¬ st.1.size < lim) : StrLaws.occBody z ⟨#[c]⟩ z.length lim k st = pure (ForInStep.yield (st.1, st.2)) := by
  unfold StrLaws.occBody
  rw [if_neg (fun q => h2 q.1.1.1)]
theorem occ_one (z : Str) (c : Nat) : ∀ (n k free : Nat) (acc : Array Nat), free ≤ k → k + n = z.length + 1 →
    (0 < (forIn (List.range' k n) (acc, free) (StrLaws.occBody z ⟨#[c]⟩ z.length 1)).run.fst.size ↔ (0 < acc.size ∨ c ∈ (sl z).drop k))
  | 0, k, free, acc, h1, h3 => by
    have : (sl z).drop k = [] := List.drop_eq_nil_of_le (by rw [slen]; omega)
    rw [this]; simp
  | n + 1, k, free, acc, h1, h3 => by
    rw [List.range'_succ, List.forIn_cons]
    by_cases ha : acc.size < 1
    · rw [occ_step z c k _ (acc, free) h1 (by show acc.size < _; omega)]
      by_cases hk : k < z.length
      · have hk' : k < (sl z).length := by rw [slen]; exact hk
        rw [List.drop_eq_getElem_cons hk', List.getElem?_eq_getElem hk']
        by_cases hc : (sl z)[k] = c
        · rw [if_pos (by rw [hc])]
          have := occ_one z c n (k + 1) (k + 1) (acc.push k) (by omega) (by omega)
          simp only [pure_bind]
          rw [this, Array.size_push]
          simp [hc]
        · rw [if_neg (by simpa using hc)]
          have := occ_one z c n (k + 1) free acc (by omega) (by omega)
          simp only [pure_bind]
          rw [this]
          have hc' : ¬ c = (sl z)[k] := fun e => hc e.symm
          have hm : (c ∈ (sl z)[k] :: (sl z).drop (k + 1)) ↔ c ∈ (sl z).drop (k + 1) := by
            rw [List.mem_cons]; exact ⟨fun h => h.resolve_left hc', .inr⟩
          rw [hm]
      · have e : (sl z).drop k = [] := List.drop_eq_nil_of_le (by rw [slen]; omega)
        rw [if_neg (by rw [List.getElem?_eq_none (by rw [slen]; omega)]; simp), e]
        have := occ_one z c n (k + 1) free acc (by omega) (by omega)
        have e2 : (sl z).drop (k + 1) = [] := List.drop_eq_nil_of_le (by rw [slen]; omega)
        rw [e2] at this
        simp only [pure_bind]
        exact this
    · rw [occ_full z c k 1 (acc, free) ha]
      have := occ_one z c n (k + 1) free acc (by omega) (by omega)
      simp only [pure_bind]
      rw [this]
      have : 0 < acc.size := by omega
      simp [this]
theorem contains_sign (z : Str) (c : Nat) : Txt.contains z (mkS [c]) = decide (c ∈ sl z) := by
  unfold Txt.contains
  have h := occ_one z c (z.length + 1 - 0) 0 0 #[] (by omega) (by omega)
  rw [StrLaws.occ_eq]
  have h' : 0 < (forIn (List.range' 0 (z.length + 1 - 0)) (#[], 0) (StrLaws.occBody z (mkS [c]) z.length 1)).run.fst.size ↔ c ∈ sl z := by
    refine h.trans ?_
    simp
  rw [Bool.eq_iff_iff, decide_eq_true_eq, ← h']
  generalize (forIn (List.range' 0 (z.length + 1 - 0)) (#[], 0) (StrLaws.occBody z (mkS [c]) z.length 1)).run.fst = A
  obtain ⟨A⟩ := A
  cases A <;> simp
@[simp] theorem contains_mkS (l : List Nat) (c : Nat) : Txt.contains (mkS l) (mkS [c]) = decide (c ∈ l) := by rw [contains_sign, sl_mkS]
end VL
set_option Elab.async false
set_option linter.all false
set_option maxRecDepth 100000
set_option maxHeartbeats 4000000
/-! VL57: x or y, where x is a text -/
namespace VL
open PySem PySem.Spec PyProof.Rows L2 HT
variable {X : Cx} {b : Bg} {W : WX} {e1 e2 : Expr} {es : List Expr} {pos : Pos} {t1 t2 : VT}
@[simp] def vOrS (ta tb : VT) : VT := fun ρ Q E => ta ρ (fun x => ∃ z : Str, x = .py (.str z) ∧ z.length ≤ 16777214 ∧ if z.length = 0 then tb ρ Q E else Q (.py (.str z))) E
theorem ve_orS (h1 : VX X b W e1 t1) (h2 : VE X b W (.BoolOp .Or (e2 :: es) pos) t2) : VE X b W (.BoolOp .Or (e1 :: e2 :: es) pos) (vOrS t1 t2) :=
  pe_mono (pe_orT h1 h2) fun σ H Q ⟨Zo, Z, ρ, Qd, Ed, v, q, l, m⟩ => ⟨Zo, Z, ρ, _, Ed, v, q, fun x H1 d x1 g1 r1 ⟨z, e, hz, q1⟩ => by
    subst e
    have ex := r1.str
    subst ex
    refine ⟨((z.length : Int) != 0), ⟨by rw [sizeLine_eq]; omega, rfl⟩, ?_⟩
    by_cases h : z.length = 0
    · rw [if_pos h] at q1
      rw [if_neg (by rw [h]; simp)]
      exact ⟨Zo, Z, ρ, _, Ed, v.ex x1 g1, q1, fun y H2 d2 x2 g2 r2 q2 => l y H2 d2 (x1.trans x2) g2 r2 q2, fun c z H2 er x2 g2 r2 q2 => m c z H2 er (x1.trans x2) g2 r2 q2⟩
    · rw [if_neg h] at q1
      rw [if_pos (by simp; omega)]
      exact l _ H1 (.py (.str z)) x1 g1 (Rq.str z) q1, m⟩
end VL
set_option Elab.async false
set_option linter.all false
set_option maxRecDepth 100000
set_option maxHeartbeats 4000000
/-! VL58: a background with tables of code objects (for defs that make lambdas) -/
namespace VL
open PySem PySem.Spec PyProof.Rows L2
def lamB (b : Bg) (T : List (Addr × Str)) : Bg where
  cls := b.cls
  B := fun a => b.B a ∨ a ∈ T.map (·.1)
  G := fun H => b.G H ∧ LamX.Tabs T H
  loc := fun H H' h hx ⟨g, t⟩ => ⟨b.loc H H' (fun a z => h a (.inl z)) hx g, fun p hp => by
    obtain ⟨ps, h1, h2, h3⟩ := t p hp
    refine ⟨ps, by rw [h p.1 (.inr (List.mem_map.mpr ⟨p, hp, rfl⟩))]; exact h1, h2, fun pos cv hc => ?_⟩
    obtain ⟨c, e1, e2⟩ := h3 pos cv hc
    exact ⟨c, e1, hx c _ e2⟩⟩
  dom := fun H a ⟨g, t⟩ z => by
    rcases z with z | z
    · exact b.dom H a g z
    · obtain ⟨p, hp, rfl⟩ := List.mem_map.mp z
      obtain ⟨ps, h1, _⟩ := t p hp
      rw [h1]; simp
section
variable {b : Bg} {T : List (Addr × Str)} {Z : Addr → Prop} {H H' : Hp}
theorem Rp.lam {v : V} {d : D} : Rp (lamB b T) Z H v d ↔ Rp b Z H v d := by cases d <;> exact Iff.rfl
theorem Rps.lam : ∀ {v : List V} {d : List D}, Rps (lamB b T) Z H v d → Rps b Z H v d
  | _, _, .nil => .nil
  | _, _, .cons r t => .cons (Rp.lam.mp r) (Rps.lam t)
/-- what b's own objects are not: tables, code objects -/
def NoTab (b : Bg) : Prop := ∀ (H : Hp) (a : Addr), b.G H → b.B a → (∀ ps, H a ≠ some (.tbl ps)) ∧ ∀ P, H a ≠ some (.ext P)
theorem tabs_ex (n : NoTab b) (g : b.G H) (x : Ex b H H') (t : LamX.Tabs T H) : LamX.Tabs T H' := fun p hp => by
  obtain ⟨ps, h1, h2, h3⟩ := t p hp
  refine ⟨ps, x _ _ h1 fun z => (n H _ g z).1 _ h1, h2, fun pos cv hc => ?_⟩
  obtain ⟨c, e1, e2⟩ := h3 pos cv hc
  exact ⟨c, e1, x _ _ e2 fun z => (n H _ g z).2 _ e2⟩
theorem FnOk.lam {P : Program} {w : World} {K : PySem.W.Frag} {mg : Str → Option Value} {base : Heap} {CX : CXT} {k : Nat} {f : Addr} {fd : FuncData} {ps : List Str} {S : SV} (n : NoTab b) (h : FnOk P w K mg base CX k f fd ps (spV b S)) : FnOk P w K mg base CX k f fd ps (spV (lamB b T) S) :=
  h.imp fun vs H Q E ⟨Z, ds, Qd, Ed, g, rp, hh, l, m⟩ =>
    ⟨Z, ds, Qd, Ed, ⟨g.g.1, fun a z => g.zb a (.inl z), g.dom⟩, rp.lam, hh,
      fun v H' d x g' r q => l v H' d (fun a o e nb => x a o e fun z => nb (.inl z)) ⟨g', tabs_ex n g.g.1 x g.g.2⟩ (Rp.lam.mpr r) q,
      fun c y H' er x g' r q => m c y H' er (fun a o e nb => x a o e fun z => nb (.inl z)) ⟨g', tabs_ex n g.g.1 x g.g.2⟩ r q⟩
end
end VL
set_option Elab.async false
set_option linter.all false
set_option maxRecDepth 100000
set_option maxHeartbeats 4000000
/-! VL59: a lambda without parameters is made; it is called where it was handed to -/
namespace VL
open PySem PySem.Spec PyProof.Rows L2
open LamX (CodeO Tabs TabS TabB LamS lamEnv lamCx)
abbrev lamName (X : Cx) : Str := X.env.qual ++ "<lambda>"
section
variable {X : Cx} {pins : List (Addr × Obj)} {σ : L2.St} {H : Hp} {s : Shared}
theorem lamMk {T : List (Addr × Str)} {c P : Addr} {params : Arguments} {body : Expr} {scope : Scope} {pos : Pos} {E Q : Value → Shared → Prop} (I : Inv X pins σ H s) (TB : TabB X.base X.mg c P) (hcode : X.env.code = .ref c)
    (mem : (P, lamName X) ∈ T) (uni : ∀ p ∈ T, p.1 = P → p.2 = lamName X) (tabs : Tabs T H) (nodef : defaultsOf params X.env = ([], [])) (free : ∀ y ∈ scope.names, y.2 = .free → ∃ c, X.env.cells.lookup y.1 = some c)
    (go : ∀ (f c' : Addr) (pm ctv : Value) (H1 : Hp) (s' : Shared), Inv X pins σ H1 s' → (∀ b o, H b = some o → b ≠ P → H1 b = some o) → Tabs T H1 →
      s'.heap.get? f = some (PySem.W.kla_obj "<lambda>" (lamName X) params body scope (cloFrom X.env.cells scope.names []) pm c' ctv) → H1 f = none → f ∉ frs X.stack → H1 c' = some (CodeO c' (lamName X)) → Q (.ref f) s') :
    wpAny (model X.prog X.w) X.A (eval (.Lambda params body scope pos) X.env) Q E s := by
  obtain ⟨row, atP, triples, known⟩ := tabs _ mem
  have atS : s.heap.get? P = some { cls := .none, data := .fields row } := I.hok P _ atP
  have far : ∀ g, s.heap.objs.size ≤ g → g ∉ frs X.stack := fun g hg z => by
    rcases List.mem_cons.mp (I.stkSub _ z) with e | e
    · exact absurd I.lt (Nat.not_lt.mpr (by rw [← e]; exact hg))
    · exact I.nofs hg e
  refine PySem.W.kla_eval nodef ?_
  cases look : codeAmong pos row.toList with
  | some cv =>
    obtain ⟨c', rfl, co⟩ := known pos cv look
    refine PySem.W.kla_makeFunctionHit (c := c) (P := P) (mg := X.mg) (ps := row) (closure_ok free) I.ok.glob (I.mod.glob.keeps I.bk) hcode (TB.code.keeps I.bk) atS triples look (TB.bm.keeps I.bk) fun ctv h1 tk grow size => ?_
    refine go h1.objs.size c' _ ctv H _ (I.kept (t' := tk) fun a o e => Heap.get?_push_of_some _ (grow a o e)) (fun a o e _ => e) tabs (Heap.get?_push_size _ rfl) (I.hok.fresh size) (far _ size) co
  | none =>
    refine PySem.W.kla_makeFunction (c := c) (P := P) (mg := X.mg) (ps := row) (closure_ok free) I.ok.glob (I.mod.glob.keeps I.bk) hcode (TB.code.keeps I.bk) atS triples look TB.gP (TB.bm.keeps I.bk) fun c' ctv h1 tk grow ge lt rec at1 => ?_
    obtain ⟨c2, oc, vs, t, ec, hoc, hd, hv⟩ := rec
    cases ec
    have fresh : H c' = none := I.hok.fresh ge
    have size : s.heap.objs.size ≤ h1.objs.size := Nat.le_trans ge (Nat.le_of_lt lt)
    have nPc : P ≠ c' := fun e => by rw [← e, atP] at fresh; cases fresh
    have keep : ∀ a o, H a = some o → a ≠ P → upd (upd H P (.tbl (row ++ #[rawInt pos.line, rawInt pos.col, .ref c']))) c' (CodeO c' (lamName X)) a = some o := fun a o e n => by
      rw [upd_ne (ne_of_none e fresh), upd_ne n]
      exact e
    have J := LamX.inv_table (t' := tk) (more := #[rawInt pos.line, rawInt pos.col, .ref c']) (h' := h1.push (PySem.W.kla_obj "<lambda>" (lamName X) params body scope (cloFrom X.env.cells scope.names []) ((X.mg "__name__").getD .none) c' ctv)) I atP
      (fun a o n e => Heap.get?_push_of_some _ (grow a o n e)) (Heap.get?_push_of_some _ at1) ge ⟨oc, vs, t, Heap.get?_push_of_some _ hoc, hd, hv⟩
    have eL : (row ++ #[rawInt pos.line, rawInt pos.col, .ref c']).toList = row.toList ++ [rawInt pos.line, rawInt pos.col, .ref c'] := by simp
    refine go h1.objs.size c' _ ctv _ _ J keep (fun p hp => ?_) (Heap.get?_push_size _ rfl) ?_ (far _ size) upd_same
    · by_cases hb : p.1 = P
      · rw [uni p hp hb, hb]
        refine ⟨_, by rw [upd_ne nPc]; exact upd_same, by rw [eL]; exact PySem.TriplesOk_snoc _ _ _ _ triples, fun p2 cv hcv => ?_⟩
        rw [eL] at hcv
        rcases LamX.among_app _ triples hcv with z | z
        · obtain ⟨c0, e1, e2⟩ := known p2 cv z
          exact ⟨c0, e1, keep _ _ e2 fun e => by rw [e, atP] at e2; exact LamX.codeO_ne row (Option.some.inj e2).symm⟩
        · exact ⟨c', z, upd_same⟩
      · obtain ⟨row2, a1, a2, a3⟩ := tabs p hp
        refine ⟨row2, keep _ _ a1 hb, a2, fun p2 cv hcv => ?_⟩
        obtain ⟨c0, e1, e2⟩ := a3 p2 cv hcv
        exact ⟨c0, e1, keep _ _ e2 fun e => by rw [e, atP] at e2; exact LamX.codeO_ne row (Option.some.inj e2).symm⟩
    · rw [upd_ne (Nat.ne_of_gt lt), upd_ne (Nat.ne_of_gt (Nat.lt_of_lt_of_le (Heap.lt_size atS) size))]
      exact I.hok.fresh size
end
section
variable {X : Cx} {pins : List (Addr × Obj)} {σ : L2.St} {H : Hp} {s : Shared}
/-- x(), within the def that got the lambda -/
theorem lamAct {CXg : CXT} {Eg : XK} {Ng : List Str} {qg : Str} {sg : Scope} {g f c' : Addr} {cdg pm ctv : Value} {params : Arguments} {body : Expr} {scope : Scope} {k i : Nat} {a : Str} {pn : List (Addr × Obj)} {xe : Value → Shared → Prop} {W : WX} {tb : XK → TE} {p1 p2 : Pos}
    (I : Inv X pins σ H s) (L : LamS X.env.scope scope) (hf : s.heap.get? f = some (PySem.W.kla_obj "<lambda>" (lamName X) params body scope (cloFrom X.env.cells scope.names []) pm c' ctv)) (hfn : H f = none) (hfr : f ∉ frs X.stack)
    (nobind : bindArgs (PySem.W.kla_fn "<lambda>" (lamName X) params body scope (cloFrom X.env.cells scope.names []) pm (.ref c') ctv) ⟨[], []⟩ = pure [])
    (tk : Takes ((cxOf CXg X.prog X.w X.K X.mg X.base Ng qg sg g cdg X.A X.stack s H Eg).tr pn xe) W) (room : Room (k + 1) (X.A.deeper (envOfC qg sg s.heap.objs.size g cdg)))
    (inner : ∀ (E : XK) (A : Around) (outer : List Env) (s : Shared) (H : Hp), Room k (A.deeper (lamEnv X scope s.heap.objs.size f c')) → PE (lamCx X A outer s H E scope f c') body (tb E))
    (hN : Ng[i]? = some a) (vis : Vis sg a) (nd : (a == ("__debug__" : Str)) = false) (nc : (a == ("__classdict__" : Str)) = false) :
    PE ((cxOf CXg X.prog X.w X.K X.mg X.base Ng qg sg g cdg X.A X.stack s H Eg).tr pn xe) (.Call (.Name a p1) [] [] p2)
      (fun σZ HZ Q => σZ[i]? = some (some (.ref f)) ∧ HZ c' = some (CodeO c' (lamName X)) ∧ tb (WE W σZ) σ HZ Q) := by
  refine ⟨fun pinsZ sZ σZ HZ Q IZ ⟨at_i, code, body'⟩ => ?_⟩
  refine wpAny_Call_Name_kw (thn ((pe_var (pos := p1) (i := i) hN vis nd nc).run pinsZ sZ σZ HZ (fun v H1 => v = .ref f ∧ H1 = HZ) IZ ⟨.ref f, at_i, rfl, rfl⟩) fun u s1 ⟨v, H1, I1, rv, ev, eH⟩ => ?_)
  subst ev eH
  obtain rfl : u = Value.ref f := rv
  have fun1 := I1.base.keep f _ hf hfn hfr (fun z => nomatch (show f ∈ ([] : List Addr) from z))
  obtain ⟨⟨oc, vs, t, hoc, hdc, hvc⟩, _, _⟩ := I1.hok c' _ code
  have un : Un (frs X.stack) [] H H1 s.heap s1.heap := I1.base
  refine PySem.W.callWith_F0 ⟨_, _, _, _, fun1⟩ (wpAny_call (codeAny_mono (R := CR (L2.CX X.prog X.w) (envOfC qg sg s.heap.objs.size g cdg :: X.stack) X.prog X.w H1 s1 Q (WE W σZ)) ?_ fun r s' hq => ?_))
  · show codeAny (model X.prog X.w) (X.A.deeper (envOfC qg sg s.heap.objs.size g cdg)) (.call (.ref f) ⟨[], []⟩) _ s1
    refine PySem.W.kla_callFunE room.depth fun1 rfl L.co L.gen rfl ⟨c', oc, vs, t, rfl, hoc, hdc, hvc⟩ ?_
    rw [nobind]
    refine wpAny_pure (wpAny_newFunctionEnv (fun y hy => (L.own y hy).2) (fun y hy => absurd hy (by simp)) (fun h2 hns hsb => ⟨I1.nolimit.fresh _ hsb, ?_⟩) L.kind)
    have kp : ∀ b o, s1.heap.get? b = some o → h2.get? b = some o := fun b o e => hsb.extBut b o (Nat.ne_of_lt (Heap.lt_size e)) (Heap.get?_push_of_some _ e)
    have J : Inv (lamCx X (X.A.deeper (envOfC qg sg s.heap.objs.size g cdg)) (envOfC qg sg s.heap.objs.size g cdg :: X.stack) s1 H1 (WE W σZ) scope f c') [] σ H1 { s1 with heap := h2, toks := s1.toks + ([] : List (Str × Value)).length } :=
      LamX.lam_start2 I L I1.env0 room.hd un hns kp
    refine PySem.W.kla_codeExpr (wpAny_mono ((inner (WE W σZ) _ _ s1 H1 (room.deeper _)).run [] _ _ H1 Q J body') (fun v s' ⟨w', H', J', rv', q⟩ => ?_) fun e s' hq => hq)
    exact ⟨w', H', J'.os, J'.bare, J'.base, J'.hok, rv', q⟩
  · match r, hq with
    | .error e, hq => exact passAt tk σZ pinsZ H1 s1 e s' I1 hq
    | .ok (.ret u), hq => exact I1.after hq
    | .ok .next, hq => exact (show False from hq).elim
    | .ok .brk, hq => exact (show False from hq).elim
    | .ok .cont, hq => exact (show False from hq).elim
end
end VL
set_option Elab.async false
set_option linter.all false
set_option maxRecDepth 100000
set_option maxHeartbeats 4000000
/-! VL60: told(lambda: ..): the def tries what it got and tells the result or the error -/
namespace VL
open PySem PySem.Spec PyProof.Rows L2
open LamX (CodeO Tabs TabS TabB LamS lamEnv lamCx)
abbrev noX : XK := fun _ _ _ => False
/-- the context of a def called at s, H -/
abbrev calledCx (X : Cx) (N : List Str) (x : Str) (sc : Scope) (g : Addr) (cdg : Value) (s : Shared) (H : Hp) : Cx := cxOf (L2.CX X.prog X.w) X.prog X.w X.K X.mg X.base N x sc g cdg X.A X.stack s H noX
/-- what is told of an error -/
def toldE (names : List Str) (th : Addr → Option Addr → Er → VS) (tr : VS) (er : Er) (Q : D → Prop) : Prop := er.n ∈ names ∧ errSub er.n "LineError" = true ∧
  ∀ f a d, th a d er [.shr (.raw f), .own (.py (.list [])), .shr (.err a d er.n er.fs)] (afterS 2 { nx := fun ρ => tr ρ (fin Q noE), rt := Q, bk := fun _ => False, ct := fun _ => False, ex := fun _ _ => False })
@[simp] def vTold (names : List Str) (th : Addr → Option Addr → Er → VS) (tr : VS) (te : VT) : VT := fun ρ Q E => te ρ (fun d => ∃ p, d = .py p ∧ Q (.py (.tuple [.str "result", p]))) (fun er => toldE names th tr er Q)
section
variable {X : Cx} {b : Bg} {T : List (Addr × Str)}
theorem ve_told {x a fnd err : Str} {g c P : Addr} {k : Nat} {st : Stmt} {fd : FuncData} {Ng : List Str} {params : Arguments} {body : Expr} {scope : Scope} {te : VT} {W : WX} {names : List Str} {th : Addr → Option Addr → Er → VS} {tr : VS} {b0 : Stmt} {suite rest : List Stmt}
    {p lpos pos p1 p2 p3 p4 p5 p6 p7 p8 p9 p10 p11 : Pos} {j1 j2}
    (n : NoTab b) (F : Fun X.K x x st g fd) (Sg : FnScope Ng [a] (defScope st)) (hNg : Ng = [a, fnd, err])
    (hst : defBody st = .Assign [.Name fnd p1] (.List [] p2) p3 :: .Try [.Return (some (.Tuple [.Constant (.str "result") j1 p4, .Call (.Name a p5) [] [] p6] j2 p7)) p8] [.ExceptHandler (some (.Name "LineError" p9)) (some err) (b0 :: suite) p10] [] [] p11 :: rest)
    (hva : Vis (defScope st) a) (hlf : (defScope st).names.lookup fnd = some .local) (hle : (defScope st).names.lookup err = some .local) (hgl : (defScope st).names.lookup ("LineError" : Str) = some .globalImplicit)
    (hg : Gl X x) (hm : X.mg x = some (.ref g)) (hk : PySem.W.keepIn X.K (.ref g) = true) (hb : Binds X.K fd [a] [])
    (TB : TabB X.base X.mg c P) (hcode : X.env.code = .ref c) (mem : (P, lamName X) ∈ T) (uni : ∀ p ∈ T, p.1 = P → p.2 = lamName X) (room : Room (k + 2) X.A) (L : LamS X.env.scope scope) (nodef : defaultsOf params X.env = ([], []))
    (nobind : ∀ (q : Str) (cl : List (Str × Addr)) (pm cv ctv : Value), bindArgs (PySem.W.kla_fn "<lambda>" q params body scope cl pm cv ctv) ⟨[], []⟩ = pure [])
    (hT : ErrT X.K X.mg (lamB b T) names "LineError")
    (inner : ∀ (E : XK) (f c' : Addr) (A : Around) (outer : List Env) (s : Shared) (H : Hp), Room k (A.deeper (lamEnv X scope s.heap.objs.size f c')) → VE (lamCx X A outer s H E scope f c') (lamB b T) (WF E) body te)
    (hsu : ∀ (cdg : Value) (s : Shared) (H : Hp) (e : Addr) (oe : Obj) (er : Er) (d : Option Addr) (pn : List (Addr × Obj)), Zc (.ref (b.cls er.n)) d oe → (∃ vs, oe.data = .fields vs) → VSs ((calledCx X Ng x (defScope st) g cdg s H).suite e ((e, oe) :: pn)) (lamB b T) noW (b0 :: suite) (th e d er))
    (hre : ∀ (cdg : Value) (s : Shared) (H : Hp), (∃ k, Room k (X.A.deeper (envOfC x (defScope st) s.heap.objs.size g cdg))) → VSs (calledCx X Ng x (defScope st) g cdg s H) (lamB b T) (WF noX) rest tr)
    (hdb : (x == ("__debug__" : Str)) = false := by decide) (nd : (a == ("__debug__" : Str)) = false := by decide) (nc : (a == ("__classdict__" : Str)) = false := by decide) :
    VE X (lamB b T) W (.Call (.Name x p) [.Lambda params body scope lpos] [] pos) (vTold names th tr te) := by
  obtain ⟨oc, od, kV, doc, pmD, an, cdv, ct, osl, rfl, lk, hcd⟩ := F.ex
  obtain ⟨CL, hmL, hsub⟩ := hT.ex
  refine ⟨fun pins s σ H Q I ⟨Zo, Z, ρ, Qd, Ed, v, q, l, m⟩ => ?_⟩
  refine wpAny_Call_Name_kw (ld_glob I hg hm ?_ hdb)
  refine PySem.W.callWith_K (h₀ := X.base) I.ok.mod.kin hk ?_ (by rfl) (by rfl)
  show wpAny _ _ (spliced ((false, eval (.Lambda params body scope lpos) X.env) :: backTo pos (starEach [] X.env))) _ _ s
  refine Calls.spliced_cons (lamMk I TB hcode mem uni v.g.2 nodef (L.has I.ok) fun f c' pm' ctv H1 s' I1 keep T1 hf hfn hfr co => ?_)
  refine Calls.spliced_nil ⟨I1.kIn, ?_⟩
  have inT : P ∈ T.map (·.1) := List.mem_map.mpr ⟨_, mem, rfl⟩
  have x1 : Ex (lamB b T) H H1 := fun a o e nb => keep a o e fun z => nb (.inr (z ▸ inT))
  obtain ⟨row, atP, _, _⟩ := v.g.2 _ mem
  have notP : ∀ a, b.B a → a ≠ P := fun a hba e => (n H a v.g.1 hba).1 row (by rw [e]; exact atP)
  have g1 : (lamB b T).G H1 := ⟨b.loc H H1 (fun a hba => by
      cases e : H a with
      | none => exact absurd e (b.dom H a v.g.1 hba)
      | some o => exact keep a o e (notP a hba)) (fun a Ph e => keep a _ e fun z => by rw [z] at e; rw [atP] at e; cases e) v.g.1, T1⟩
  have v1 := v.ex x1 g1
  have rc : codeAny (model X.prog X.w) X.A (.call (.ref g) ⟨[.ref f], []⟩) (CR (L2.CX X.prog X.w) X.stack X.prog X.w H1 s' Q noX) s' := by
    refine LamX.run_ofS (N := Ng) (ps := [a]) (us := [.ref f]) (vs := [.ref f]) lk hcd Sg room I1.env0 (hb s' [.ref f] I1.kIn rfl) (.cons rfl .nil) rfl fun room1 => ?_
    rw [hst]
    have tkN : Takes (calledCx X Ng x (defScope st) g cdv s' H1) (WF noX) := takes_of rfl rfl rfl rfl
    refine ⟨_, pss_cons (ps_set (X := calledCx X Ng x (defScope st) g cdv s' H1) (i := 1) Sg.nd (by show Ng[1]? = some fnd; rw [hNg]; rfl) (.inl hlf) (pe_lst pa_nil) (by rfl) (.inr hlf))
      (pss_cons (ps_try_as (X := calledCx X Ng x (defScope st) g cdv s' H1) (i := 2) (c := .ref CL) (Wout := WF noX)
        (tb := fun W' D σ2 H2 => σ2[0]? = some (some (.ref f)) ∧ H2 c' = some (CodeO c' (lamName X)) ∧ LE (lamB b T) (WF (WE W' σ2)) (fun Z _ H v d => Rp (lamB b T) Z H v d) te σ H2 fun v H3 => 2 ≤ sizeLine ∧ ∀ tp o, H3 tp = none → o.dict = none → D.rt (.ref tp) (upd H3 tp (HO.th o [.str "result", v])))
        (ts := fun e cls d => fun D σ H => ∃ er : Er, cls = .ref ((lamB b T).cls er.n) ∧ LS (lamB b T) noW (th e d er) D σ H)
        rfl rfl Sg.nd (by show Ng[2]? = some err; rw [hNg]; rfl) hle ⟨hgl, by decide, .inl hmL⟩ tkN ?_ ?_) (hre cdv s' H1 ⟨_, room1⟩)), ?_⟩
    · intro W' pn xe tk' _
      have act := lamAct (i := 0) (a := a) (k := k) (p1 := p5) (p2 := p6) (W := W') (tb := fun E => LE (lamB b T) (WF E) (fun Z _ H v d => Rp (lamB b T) Z H v d) te) I1 L hf hfn hfr (nobind _ _ _ _ _) tk' room1 (fun E A outer s H r => inner E f c' A outer s H r) (by rw [hNg]; rfl) hva nd nc
      refine pss_mono (pss_one (ps_ret (pe_tupF (pa_cons pe_str (pa_cons act pa_nil))))) ?_
      rintro D σ2 H2 ⟨h1, h2, h3⟩
      exact ⟨h1, h2, h3⟩
    · intro e oe cls d pn hz hfd
      refine ⟨fun pins s σ H D I ⟨er, ec, q⟩ => ?_⟩
      subst ec
      exact (hsu cdv s' H1 e oe er d pn hz hfd).run pins s σ H D I q
    · subst hNg
      refine ⟨Nat.zero_le _, fun pl hpl => ⟨rfl, by rw [upd_ne (ne_of_none co hpl)]; exact co, ?_⟩⟩
      have v2 := v1.apart hpl (o := .lst [])
      have npl : ¬ Z pl := v1.fresh hpl
      have xx : ∀ {H2 : Hp}, Ex (lamB b T) (upd H1 pl (.lst [])) H2 → Ex (lamB b T) H1 H2 := fun x2 => (Ex.new hpl).trans x2
      have outL : ∀ {H2 : Hp}, (∀ a o, H1 a = some o → ¬ (lamB b T).B a → ¬ False → H2 a = some o) → Ex (lamB b T) H H2 := fun h => x1.trans fun a o e nb => h a o e nb not_false
      refine ⟨_, _, ρ, _, _, v2, q, fun u H2 d x2 g2 r2 ⟨pd, ed, qd⟩ => ?_, fun cl x H2 er x2 g2 r2 ⟨hn, hs, hth⟩ => ?_⟩
      · subst ed
        refine ⟨by show 2 ≤ sizeLine; decide, fun tp o htp ho => ?_⟩
        have nz : ¬ (Z tp ∨ tp = pl) := (v2.ex x2 g2).fresh htp
        have r3 : Rq Z H2 u pd := Rq.mono (fun a z => .inl (.inl z)) (fun _ _ e _ => e) r2
        exact l (.ref tp) _ (.py (.tuple [.str "result", pd])) ((x1.trans (xx x2)).trans (Ex.new htp)) (Bg.new g2 htp) (Rq.tup upd_same ho (fun z => nz (.inl z)) (.cons (.str _) (.cons (r3.mono (fun _ z => .inl z) (VL.up htp)) .nil))) qd
      · obtain ⟨ec, rd⟩ := r2
        subst ec
        have e2 := (hsub er.n hn).1
        rw [hs] at e2
        have nBpl : ¬ (lamB b T).B pl := fun z => npl (v.zo _ (v.zb _ z))
        have hpl2 : H2 pl = some (.lst []) := x2 pl _ upd_same nBpl
        refine ⟨true, e2, fun _ ea hea => ⟨er, rfl, H1, fun _ => False, Z, fun c => Z c ∨ c = pl, [.shr (.raw (.ref f)), .own (.py (.list [])), .shr (.err ea x er.n er.fs)], _, ⟨⟨g2, fun a z => v.zo _ (v.zb _ z), fun a z => .inl z, (v2.ex x2 g2).dom, fun a z => ?_, fun i d e => ?_, fun i j d e a h1 h2 _ _ => ?_, fun i d e => ?_, rfl⟩, fun a o e nb _ => xx x2 a o e nb, fun i d a e h => ?_⟩, hth (.ref f) ea x, ⟨fun Z3 σ3 H3 ρ3 f3 ⟨hl3, q3⟩ => ?_, fun w H3 d x3 g3 r3 q3 => ?_, fun _ _ _ _ _ h => h.2.elim, fun _ _ _ _ _ h => h.2.elim, fun _ _ _ _ _ _ _ _ _ h => h.elim⟩⟩, fun z => nomatch z⟩
        · rcases z with z | rfl
          · exact .inl z
          · exact .inr ⟨1, _, rfl, rfl⟩
        · match i, e with
          | 0, e => cases e
          | 1, e => cases e; exact ⟨pl, rfl, .inr rfl, npl, [], hpl2, .nil⟩
          | 2, e => cases e
        · match i, j, h1, h2 with
          | 0, _, h1, _ => cases h1
          | 2, _, h1, _ => cases h1
          | 1, 0, _, h2 => cases h2
          | 1, 2, _, h2 => cases h2
          | 1, 1, _, _ => rfl
        · match i, e with
          | 0, e => cases e; exact ⟨.ref f, rfl, rfl⟩
          | 1, e => cases e
          | 2, e => cases e; exact ⟨.ref ea, rfl, rfl, rd⟩
        · match i, e, h with
          | 0, e, _ => cases e
          | 2, e, _ => cases e
          | 1, _, h => cases h; exact .inr hpl
        · refine ⟨H1, _, Z, _, _, fin Qd noE, f3.un hl3, q3, ⟨fun Z4 σ4 H4 ρ4 f4 q4 => l .non H4 (.py .none) (outL f4.ext) f4.v.g Rq.non q4, fun w H4 d x4 g4 r4 q4 => l w H4 d (outL x4) g4 r4 q4, fun _ _ _ _ _ h => h.elim, fun _ _ _ _ _ h => h.elim, fun _ _ _ _ _ _ _ _ _ h => h.elim⟩⟩
        · exact l w H3 d (outL x3) g3 r3 q3
  refine wpAny_call (codeAny_mono rc fun r s2 hq => ?_)
  match r, hq with
  | .error e, hq => obtain ⟨_, _, _, _, _, _, _, _, _, _, _, _, _, _, _, _, z⟩ := hq
  | .ok (.ret u), hq => exact I1.after hq
  | .ok .next, hq => exact (show False from hq).elim
  | .ok .brk, hq => exact (show False from hq).elim
  | .ok .cont, hq => exact (show False from hq).elim
end
end VL
set_option Elab.async false
set_option linter.all false
set_option maxRecDepth 100000
set_option maxHeartbeats 4000000
/-! VL61: the law's end with tables of code objects -/
namespace VL
open PySem PySem.Spec PyProof.Rows L2
/-- what is asked at the heap behind the top: the tables of the defs that make lambdas -/
structure TabsK (K : PySem.W.Frag) (mg : Str → Option Value) (h : Heap) (cs : List (Addr × Addr)) : Prop where
  emp : ∀ p ∈ cs, h.get? p.2 = some { cls := .none, data := .fields #[] }
  no : ∀ p ∈ cs, K.lookup p.2 = none
  cd : ∀ p ∈ cs, PySem.W.CodeHd h p.1 p.2
  bm : ∃ (bm : Addr) (ob : Obj), mg "__builtins__" = some (.ref bm) ∧ bm ≠ builtinsNs ∧ h.get? bm = some ob ∧ ob.cls = .type "module" ∧ ob.dict = some builtinsNs ∧ ob.data = .plain
theorem lawGT {P : Program} {w : World} {K : PySem.W.Frag} {mg mb : Str → Option Value} {k : Nat} {fa a : Addr} {fd : FuncData} {x : Str} {sp : Sp} {s0 : Shared} {vs : List Value} {ns : List Int} {cs : List (Addr × Addr)}
    (KX : K.In s0.heap) (hns : s0.heap.Ns mainGlobals mg) (hb : s0.heap.Ns builtinsNs mb) (hbb : ∀ x : Str, x ≠ "__name__" → mb x = bootBuiltins x) (hlim : s0.heap.NoLimit) (hgens : s0.gens = #[]) (t : TabsK K mg s0.heap cs)
    (ha : s0.heap.get? a = some { cls := .type "list", data := .seq vs.toArray }) (hi : IntsAre vs ns) (hl : ns.length ≤ sizeLine) (hr : Room k callerA)
    (F : ∀ base : Heap, K.In base → base.Ns mainGlobals mg → (∀ p ∈ cs, LamX.TabB base mg p.1 p.2) → FnG P w K mg base k fa fd [x] sp) (hbind : ∀ (s : Shared) (u : Value), BindsTo s fd ⟨[u], []⟩ [(x, u)])
    (hsp : ∀ H : Hp, (∀ p ∈ cs, H p.2 = some (.tbl #[])) → SqL K H a (ns.map V.int) → sp [.ref a] H (fun v _ => v = .bl true) fun _ _ _ => False) :
    codeAny (model P w) callerA (.call (.ref fa) ⟨[.ref a], []⟩) (fun r s' => r = .ok (.ret (.bool true)) ∧ OldK s0.heap s'.heap ∧ s'.os = s0.os ∧ AllBare s'.gens) s0 := by
  have rv := vals_ints hi
  have tab : ∀ {b : Addr}, b ∈ cs.map (·.2) → s0.heap.get? b = some { cls := .none, data := .fields #[] } := fun {b} hb => by
    obtain ⟨p, hp, rfl⟩ := List.mem_map.mp hb
    exact t.emp p hp
  have aNo : a ∉ cs.map (·.2) := fun z => by
    have q := (tab z).symm.trans ha
    cases q
  have go : ∀ H : Hp, (∀ p ∈ cs, H p.2 = some (.tbl #[])) → (∀ b u, H b = some u → (b ∈ cs.map (·.2)) ∨ (b = a ∧ ∃ o xs, u = .frz o (.lst xs) ∧ K.lookup a = none)) → SqL K H a (ns.map V.int) → HOk P w H s0.heap →
      codeAny (model P w) callerA (.call (.ref fa) ⟨[.ref a], []⟩) (fun r s' => r = .ok (.ret (.bool true)) ∧ OldK s0.heap s'.heap ∧ s'.os = s0.os ∧ AllBare s'.gens) s0 := by
    intro H hH hO hS hok
    -- what is neither the script nor a table is not tracked
    have free : ∀ {b : Addr} {o : Obj}, s0.heap.get? b = some o → b ≠ a → o.data ≠ .fields #[] → H b = none := fun {b o} e n1 n2 => by
      cases q : H b with
      | none => rfl
      | some u =>
        rcases hO b u q with z | ⟨z, _⟩
        · have := e.symm.trans (tab z)
          cases this
          exact absurd rfl n2
        · exact absurd z n1
    have low : ∀ {b : Addr} {o : Obj}, s0.heap.get? b = some o → b ≠ a → o.data ≠ .fields #[] → (hidT s0.heap H).get? b = some o := fun e n1 n2 => hidT_get e (free e n1 n2)
    have nsk : ∀ {b : Addr} {m : Str → Option Value}, s0.heap.Ns b m → (hidT s0.heap H).Ns b m := fun {b m} ⟨o, es, ep, e, d, r⟩ => by
      have d' : o.data = Data.dict es ep := d
      exact ⟨o, es, ep, low e (fun z => by rw [z, ha] at e; cases e; cases d') (fun z => by rw [d'] at z; cases z), d, r⟩
    have kb : K.In (hidT s0.heap H) := fun b o e => hidT_get (KX b o e) (by
      cases q : H b with
      | none => rfl
      | some u =>
        rcases hO b u q with z | ⟨z, _, _, _, n⟩
        · obtain ⟨p, hp, rfl⟩ := List.mem_map.mp z
          rw [t.no p hp] at e; cases e
        · rw [z, n] at e; cases e)
    obtain ⟨mc, c1, c2⟩ := hlim
    have tb : ∀ p ∈ cs, LamX.TabB (hidT s0.heap H) mg p.1 p.2 := fun p hp => by
      have ep := t.emp p hp
      refine ⟨?_, ?_, fun z => ?_⟩
      · obtain ⟨o, us, file, tf, flags, tg, inF, text, tt, e1, r1, r2, r3, r⟩ := t.cd p hp
        exact ⟨o, us, file, tf, flags, tg, inF, text, tt, low e1 (fun z => by rw [z, ha] at e1; cases e1; cases r2) (fun z => by rw [r2] at z; cases z; simp at r3), r1, r2, r3, r⟩
      · obtain ⟨bm, ob, b1, b2, b3, b4, b5, b6⟩ := t.bm
        refine ⟨bm, ob, b1, b2, fun q => ?_, fun q => ?_, low b3 (fun z => by rw [z, ha] at b3; cases b3; cases b6) (fun z => by rw [b6] at z; cases z), b4, b5, b6⟩
        · obtain ⟨o, es, eq, e, hd, _⟩ := hns
          rw [q, e] at b3; cases b3
          rw [hd] at b6; cases b6
        · rw [q, ep] at b3; cases b3; cases b6
      · obtain ⟨o, es, eq, e, hd, _⟩ := hns
        rw [z, ep] at e; cases e; cases hd
    have env : Env0 P w K mg (hidT s0.heap H) callerA [] s0 H := ⟨rfl, ⟨kb, nsk hns, ⟨mb, nsk hb, hbb⟩, ⟨mc, nsk c1, c2⟩⟩, fun b o e => of_hidT e, Nat.le_of_eq (hidT_size _ _), trivial, (fun b m => nomatch (show b ∈ ([] : List Addr) from m)), hok, .of_eq hgens⟩
    refine codeAny_mono ((F _ kb (nsk hns) tb).run callerA [] s0 H ⟨[.ref a], []⟩ [.ref a] [.ref a] _ _ hr rfl env (hbind s0 (.ref a)) (.cons rfl .nil) (hsp H hH hS)) fun r s' h => ?_
    match r, h with
    | .error e, h => obtain ⟨_, _, _, _, _, _, _, _, _, _, _, _, z⟩ := h; exact z.elim
    | .ok .next, h => exact (show False from h).elim
    | .ok .brk, h => exact (show False from h).elim
    | .ok .cont, h => exact (show False from h).elim
    | .ok (.ret u), h =>
      obtain ⟨v, H', os, bare, un, hok', r', q⟩ := h
      have ev : v = .bl true := q
      subst ev
      obtain rfl : u = Value.bool true := r'
      have old : ∀ b o, b ∉ cs.map (·.2) → s0.heap.get? b = some o → s'.heap.get? b = some o := fun b o nb e => by
        cases q : H b with
        | none => exact un.keep b o e q (fun z => nomatch (show b ∈ ([] : List Addr) from z)) (by simp)
        | some u =>
          rcases hO b u q with z | ⟨_, ob, xs, z, _⟩
          · exact absurd z nb
          · subst z
            obtain ⟨e1, _⟩ := hok b _ q
            obtain ⟨e2, _⟩ := hok' b _ (un.frzs b ob _ q)
            rw [e] at e1; cases e1
            exact e2
      have more : ∀ p ∈ cs, ∃ ps : Array Value, s'.heap.get? p.2 = some { cls := .none, data := .fields ps } := fun p hp => by
        obtain ⟨ps, z⟩ := un.tbls p.2 #[] (hH p hp)
        exact ⟨_, hok' p.2 _ z⟩
      refine ⟨rfl, ⟨fun b o e => ?_, fun b o e => ?_⟩, os, bare⟩
      · by_cases hb : b ∈ cs.map (·.2)
        · obtain ⟨p, hp, rfl⟩ := List.mem_map.mp hb
          obtain ⟨ps, hm⟩ := more p hp
          have := e.symm.trans (t.emp p hp)
          cases this
          exact .inr (.inl ⟨((t.cd p hp).tab (t.emp p hp)).isCodeTable, rfl, #[], ps, rfl, by rw [Array.empty_append]; exact hm⟩)
        · exact .inl (old b o hb e)
      · by_cases hb : b ∈ cs.map (·.2)
        · obtain ⟨p, hp, rfl⟩ := List.mem_map.mp hb
          obtain ⟨ps, hm⟩ := more p hp
          exact ⟨_, hm⟩
        · exact ⟨o, old b o hb e⟩
  have tabH : ∀ (u : Option HO) (b : Addr), b ∈ cs.map (·.2) → (fun b => if b ∈ cs.map (·.2) then some (HO.tbl #[]) else if b = a then u else none) b = some (.tbl #[]) := fun u b hb => if_pos hb
  cases hk : K.lookup a with
  | some o =>
    have e := KX a o hk
    rw [ha] at e
    cases e
    refine go (fun b => if b ∈ cs.map (·.2) then some (.tbl #[]) else none) (fun p hp => if_pos (List.mem_map.mpr ⟨p, hp, rfl⟩)) (fun b u z => ?_) (.inr ⟨_, vs.toArray, _, hk, rfl, rfl, rfl, by rw [List.size_toArray, hi.length]; exact hl, by simpa using rv⟩) (fun b u z => ?_)
    · by_cases hb : b ∈ cs.map (·.2)
      · exact .inl hb
      · have z' := (if_neg hb).symm.trans z; cases z'
    · by_cases hb : b ∈ cs.map (·.2)
      · have z' := (if_pos hb).symm.trans z; cases z'
        exact tab hb
      · have z' := (if_neg hb).symm.trans z; cases z'
  | none =>
    have at1 : ∀ b, b ≠ a → b ∉ cs.map (·.2) → (if b = a then some (HO.frz { cls := .type "list", data := .seq vs.toArray } (.lst (ns.map V.int))) else if b ∈ cs.map (·.2) then some (HO.tbl #[]) else none) = none := fun b h1 h2 => by rw [if_neg h1, if_neg h2]
    have at2 : ∀ b, b ∈ cs.map (·.2) → (if b = a then some (HO.frz { cls := .type "list", data := .seq vs.toArray } (.lst (ns.map V.int))) else if b ∈ cs.map (·.2) then some (HO.tbl #[]) else none) = some (.tbl #[]) := fun b h2 => by rw [if_neg (fun z => aNo (by rw [← z]; exact h2)), if_pos h2]
    refine go (fun b => if b = a then some (.frz { cls := .type "list", data := .seq vs.toArray } (.lst (ns.map V.int))) else if b ∈ cs.map (·.2) then some (.tbl #[]) else none) (fun p hp => at2 _ (List.mem_map.mpr ⟨p, hp, rfl⟩)) (fun b u z => ?_) (.inl (.inr ⟨_, if_pos rfl⟩)) (fun b u z => ?_)
    · by_cases hb : b ∈ cs.map (·.2)
      · exact .inl hb
      · by_cases hba : b = a
        · have z' := (if_pos hba).symm.trans z; cases z'
          exact .inr ⟨hba, _, _, rfl, hk⟩
        · have z' := (at1 b hba hb).symm.trans z; cases z'
    · by_cases hba : b = a
      · have z' := (if_pos hba).symm.trans z
        cases z'
        subst hba
        exact ⟨ha, by rw [List.length_map]; exact hl, vs, _, rv, ha⟩
      · by_cases hb : b ∈ cs.map (·.2)
        · have z' := (at2 b hb).symm.trans z; cases z'
          exact tab hb
        · have z' := (at1 b hba hb).symm.trans z; cases z'
/-- the tables of the named defs -/
def TabL (K : PySem.W.Frag) : List Str → List (Addr × Addr) → Prop
  | [], [] => True
  | x :: xs, p :: ps => PySem.W.tabIn K x = some p ∧ K.lookup p.2 = none ∧ TabL K xs ps
  | _, _ => False
theorem TabL.mem {K : PySem.W.Frag} : ∀ {xs : List Str} {cs : List (Addr × Addr)}, TabL K xs cs → ∀ p ∈ cs, K.lookup p.2 = none ∧ ∃ x ∈ xs, PySem.W.tabIn K x = some p
  | [], [], _, p, hp => nomatch hp
  | x :: xs, q :: cs, ⟨h1, h2, h3⟩, p, hp => by
    rcases List.mem_cons.mp hp with rfl | hp
    · exact ⟨h2, x, List.mem_cons_self, h1⟩
    · obtain ⟨a, y, b, c⟩ := TabL.mem h3 p hp
      exact ⟨a, y, List.mem_cons_of_mem _ b, c⟩
  | [], _ :: _, h, _, _ => h.elim
  | _ :: _, [], h, _, _ => h.elim
theorem walkGT {l : PySem.W.OpenLaw} {n k : Nat} {q : Program} {loose : List Str} {XP : (Str → Option Value) → Heap → Prop} {YP : World → Heap → Prop} {d : DefRec} {K : Params → PySem.W.Frag} {sp : World → List (Addr × Addr) → Sp} {x : Str} {names : List Str}
    (hn : l.most = some n) (hn2 : n ≤ sizeLine) (hdf : d.params.defaults = []) (hr : Room k callerA) (hY : ∀ (w : World) (h : Heap), YP w h → (K w.params).In h)
    (hrec : ∀ x ∈ names, ∃ e, (recsOf q).find? (fun e => e.name == x) = some e)
    (htab : ∀ (w : World), ∃ cs : List (Addr × Addr), TabL (K w.params) names cs ∧
      (∀ (mg : Str → Option Value) (fa : Addr) (h : Heap), (K w.params).In h → h.Ns mainGlobals mg → mg d.name = some (.ref fa) →
        ∃ fd : FuncData, (∀ (s : Shared) (u : Value), BindsTo s fd ⟨[u], []⟩ [(x, u)]) ∧ ∀ base : Heap, (K w.params).In base → base.Ns mainGlobals mg → (∀ p ∈ cs, LamX.TabB base mg p.1 p.2) → FnG l.prog w (K w.params) mg base k fa fd [x] (sp w cs)) ∧
      ∀ (H : Hp) (a : Addr) (ns : List Int), ns.length ≤ n → (∀ p ∈ cs, H p.2 = some (.tbl #[])) → SqL (K w.params) H a (ns.map V.int) → sp w cs [.ref a] H (fun v _ => v = .bl true) fun _ _ _ => False) :
    PySem.W.WalkO q loose XP YP l.row.toRowW d [] (fun f vs => PySem.call f vs) := by
  refine Att.attach_call hn hdf fun w s s0 mg mb fa o pm cd doc a vs ns G Y ho hd hcd hmg hobj hints hlen hg => ?_
  have KX := hY w _ Y
  obtain ⟨cs, h1, h3, h4⟩ := htab w
  obtain ⟨fd, hb, hF⟩ := h3 mg fa _ KX G.T.g hmg
  have each : ∀ p ∈ cs, PySem.W.CodeHd s0.heap p.1 p.2 ∧ s0.heap.get? p.2 = some (PySem.W.tabObj #[]) := fun p hp => by
    obtain ⟨_, x, hx, ht⟩ := h1.mem p hp
    obtain ⟨e, he⟩ := hrec x hx
    exact PySem.W.tab_of G.T KX he ht
  exact lawGT KX G.T.g G.T.b G.T.builtins G.T.nolimit hg ⟨fun p hp => (each p hp).2, fun p hp => (h1.mem p hp).1, fun p hp => (each p hp).1, G.T.bmain⟩ hobj hints (Nat.le_trans hlen hn2) hr hF hb fun H hH hS => h4 H a ns hlen hH hS
end VL
set_option Elab.async false
set_option linter.all false
set_option maxRecDepth 100000
set_option maxHeartbeats 4000000
/-! VL62: defs that make lambdas; the def that is given them, as a promise -/
namespace VL
open PySem PySem.Spec PyProof.Rows L2
open LamX (LamS lamEnv lamCx)
abbrev lamQ (x : Str) (sc : Scope) : Str := (envOfC x sc 0 0 .none).qual ++ "<lambda>"
structure LamD (base : Heap) (mg : Str → Option Value) (T : List (Addr × Str)) (c Pt : Addr) (q : Str) : Prop where
  tb : LamX.TabB base mg c Pt
  mem : (Pt, q) ∈ T
  uni : ∀ p ∈ T, p.1 = Pt → p.2 = q
def TolR (P : Program) (w : World) (K : PySem.W.Frag) (mg : Str → Option Value) (base : Heap) (b : Bg) (T : List (Addr × Str)) (x : Str) (names : List Str) (th : Addr → Option Addr → Er → VS) (tr : VS) : Prop :=
  ∀ (X : Cx) (c Pt : Addr) (k j : Nat) (params : Arguments) (body : Expr) (scope : Scope) (te : VT) (W : WX) (p lpos pos : Pos), X.prog = P → X.w = w → X.K = K → X.mg = mg → X.base = base → Gl X x → LamD base mg T c Pt (lamName X) → X.env.code = .ref c → Room j X.A → k + 2 ≤ j →
    LamS X.env.scope scope → defaultsOf params X.env = ([], []) → (∀ (q : Str) (cl : List (Str × Addr)) (pm cv ctv : Value), bindArgs (PySem.W.kla_fn "<lambda>" q params body scope cl pm cv ctv) ⟨[], []⟩ = pure []) →
    (∀ (E : XK) (f c' : Addr) (A : Around) (outer : List Env) (s : Shared) (H : Hp), Room k (A.deeper (lamEnv X scope s.heap.objs.size f c')) → Takes (lamCx X A outer s H E scope f c') (WF E) → VE (lamCx X A outer s H E scope f c') (lamB b T) (WF E) body te) →
    VE X (lamB b T) W (.Call (.Name x p) [.Lambda params body scope lpos] [] pos) (vTold names th tr te)
section
variable {P : Program} {w : World} {K : PySem.W.Frag} {mg : Str → Option Value} {base : Heap} {b : Bg} {T : List (Addr × Str)}
theorem tolR {x a fnd err : Str} {g : Addr} {st : Stmt} {fd : FuncData} {Ng : List Str} {names : List Str} {th : Addr → Option Addr → Er → VS} {tr : VS} {b0 : Stmt} {suite rest : List Stmt} {p1 p2 p3 p4 p5 p6 p7 p8 p9 p10 p11 : Pos} {j1 j2}
    (n : NoTab b) (F : Fun K x x st g fd) (Sg : FnScope Ng [a] (defScope st)) (hNg : Ng = [a, fnd, err])
    (hst : defBody st = .Assign [.Name fnd p1] (.List [] p2) p3 :: .Try [.Return (some (.Tuple [.Constant (.str "result") j1 p4, .Call (.Name a p5) [] [] p6] j2 p7)) p8] [.ExceptHandler (some (.Name "LineError" p9)) (some err) (b0 :: suite) p10] [] [] p11 :: rest)
    (hva : Vis (defScope st) a) (hlf : (defScope st).names.lookup fnd = some .local) (hle : (defScope st).names.lookup err = some .local) (hgl : (defScope st).names.lookup ("LineError" : Str) = some .globalImplicit)
    (hm : mg x = some (.ref g)) (hk : PySem.W.keepIn K (.ref g) = true) (hb : Binds K fd [a] []) (hT : ErrT K mg (lamB b T) names "LineError")
    (hsu : ∀ (X : Cx), X.prog = P → X.w = w → X.K = K → X.mg = mg → X.base = base → ∀ (cdg : Value) (s : Shared) (H : Hp) (e : Addr) (oe : Obj) (er : Er) (d : Option Addr) (pn : List (Addr × Obj)), Zc (.ref (b.cls er.n)) d oe → (∃ vs, oe.data = .fields vs) →
      VSs ((calledCx X Ng x (defScope st) g cdg s H).suite e ((e, oe) :: pn)) (lamB b T) noW (b0 :: suite) (th e d er))
    (hre : ∀ (X : Cx), X.prog = P → X.w = w → X.K = K → X.mg = mg → X.base = base → ∀ (cdg : Value) (s : Shared) (H : Hp), (∃ k, Room k (X.A.deeper (envOfC x (defScope st) s.heap.objs.size g cdg))) → VSs (calledCx X Ng x (defScope st) g cdg s H) (lamB b T) (WF noX) rest tr)
    (hdb : (x == ("__debug__" : Str)) = false := by decide) (nd : (a == ("__debug__" : Str)) = false := by decide) (nc : (a == ("__classdict__" : Str)) = false := by decide) : TolR P w K mg base b T x names th tr := by
  intro X c Pt k j params body scope te W p lpos pos h1 h2 h3 h4 h5 hg D hcode hr hkj L nodef nobind inner
  subst h1 h2 h3 h4 h5
  exact ve_told n F Sg hNg hst hva hlf hle hgl hg hm hk hb D.tb hcode D.mem D.uni (hr.mono hkj) L nodef nobind hT (fun E f c' A outer s H r => inner E f c' A outer s H r (takes_of rfl rfl rfl rfl)) (fun cdg s H => hsu X rfl rfl rfl rfl rfl cdg s H) (fun cdg s H r => hre X rfl rfl rfl rfl rfl cdg s H r) hdb nd nc
end
/-! ### the code object of a def -/
theorem code_tab {K : PySem.W.Frag} {x : Str} {f c Pt : Addr} {oc : Value} {od : Option Addr} {fd : FuncData} {osl : Array (Option Value)} (h1 : PySem.W.nsIn K mainGlobals x = some (some (.ref f))) (h2 : K.lookup f = some ⟨oc, od, .func fd, osl⟩) (t : PySem.W.tabIn K x = some (c, Pt)) : fd.code = .ref c := by
  unfold PySem.W.tabIn at t
  rw [h1] at t
  simp only [h2] at t
  split at t
  · rename_i c2 e2
    split at t
    · split at t
      · cases t
        exact e2
      · cases t
    · cases t
  · cases t
theorem DefK.useC {K : PySem.W.Frag} {x : Str} {st : Stmt} {h : Heap} {mg : Str → Option Value} {c Pt : Addr} (d : DefK K x st) (X : K.In h) (G : h.Ns mainGlobals mg) (t : PySem.W.tabIn K x = some (c, Pt)) : ∃ (f : Addr) (fd : FuncData), Fun K x x st f fd ∧ mg x = some (.ref f) ∧ PySem.W.keepIn K (.ref f) = true ∧ fd.defaults = .none ∧ fd.code = .ref c := by
  obtain ⟨f, oc, kV, doc, pm, cdv, ct, od, an, osl, a, l, cc, k⟩ := d.ex
  exact ⟨f, _, fun_mk l cc k, PySem.W.mg_of X G a, k, rfl, code_tab a l t⟩
section
variable {P : Program} {w : World} {K : PySem.W.Frag} {mg : Str → Option Value} {base : Heap} {b : Bg} {k : Nat} {x qual : Str} {st : Stmt} {f c : Addr} {fd : FuncData} {N ps : List Str} {S : SV} {sp : Sp}
theorem fnVC (F : Fun K x qual st f fd) (hc : fd.code = .ref c) (Sc : FnScope N ps (defScope st)) {t : VS} (hlen : ∀ ds Q E, S ds Q E → ds.length = ps.length) (hps : ps.length ≤ N.length)
    (hbody : ∀ (A : Around) (outer : List Env) (s : Shared) (H : Hp) (E : XK), Room k (A.deeper (envOfC qual (defScope st) s.heap.objs.size f (.ref c))) →
      Takes (cxOf (L2.CX P w) P w K mg base N qual (defScope st) f (.ref c) A outer s H E) (WF E) → VSs (cxOf (L2.CX P w) P w K mg base N qual (defScope st) f (.ref c) A outer s H E) b (WF E) (defBody st) t)
    (hlaw : ∀ ds Q E, S ds Q E → t (envOf N.length ds) (fin Q E)) : FnOk P w K mg base (L2.CX P w) (k + 1) f fd ps (spV b S) := by
  have len : ∀ vs H Q E, spV b S vs H Q E → vs.length = ps.length := fun vs H Q E ⟨Z, ds, Qd, Ed, g, r, s, _⟩ => r.length.trans (hlen ds Qd Ed s)
  obtain ⟨oc, od, kV, doc, pm, an, cdv, ct, osl, rfl, lk, hcd⟩ := F.ex
  have hc : cdv = .ref c := hc
  subst hc
  exact fn_of lk hcd Sc len fun A outer s H vs Q E hr h => ⟨_, hbody A outer s H E hr (takes_of rfl rfl rfl rfl), fin_link hlaw (Nat.le_trans (Nat.le_of_eq (len _ _ _ _ h)) hps) h⟩
theorem fnGC (F : Fun K x qual st f fd) (hc : fd.code = .ref c) (S : FnScope N ps (defScope st)) (len : ∀ vs H Q E, sp vs H Q E → vs.length = ps.length)
    (hbody : ∀ (A : Around) (outer : List Env) (s : Shared) (H : Hp) (vs : List V) (Q : VK) (E : XK), Room k (A.deeper (envOfC qual (defScope st) s.heap.objs.size f (.ref c))) → (A.deeper (envOfC qual (defScope st) s.heap.objs.size f (.ref c))).guards = some [] → sp vs H Q E →
      ∃ t, PSs (cxOf (L2.CX P w) P w K mg base N qual (defScope st) f (.ref c) A outer s H E) (defBody st) t ∧ t { nx := fun _ H' => Q .non H', rt := Q } (L2.start N vs) H) : FnG P w K mg base (k + 1) f fd ps sp := by
  obtain ⟨oc, od, kV, doc, pm, an, cdv, ct, osl, rfl, lk, hcd⟩ := F.ex
  have hc : cdv = .ref c := hc
  subst hc
  refine ⟨fun A outer s H args us vs Q E hr hgd e0 hb rv hsp => ?_⟩
  have nl : s.heap.NoLimit := e0.mod.nolimit.keeps fun b o e => (e0.bs b o e).1
  have kin : K.In s.heap := e0.mod.kin.keeps fun b o e => (e0.bs b o e).1
  have kinds : ∀ y ∈ ps.zip us, (defScope st).names.lookup y.1 = some .local ∨ ((defScope st).names.lookup y.1 = some .cell ∧ ((cellsFrom (s.heap.objs.size + 1) (defScope st).names []).lookup y.1).isSome = true) := fun ⟨n, v⟩ hy =>
    (S.par n (List.of_mem_zip hy).1).imp id fun q => ⟨q, PySem.W.cellsFrom_some _ _ _ (.inl q)⟩
  refine codeAny_call_function hr.depth (kin _ _ lk) rfl S.co S.gen rfl (PySem.W.codeRec_of kin hcd) (hb _ _ _ _ (wpAny_newFunctionEnv_cells S.kind kinds fun env he s1 ic => ?_))
  subst he
  refine ⟨nl.keeps ic.toInCall.keep, codeAny_func ?_⟩
  obtain ⟨t, ht, hq⟩ := hbody A outer s H vs Q E (hr.deeper _) hgd hsp
  refine wpAny_mono (ht.run [] s1 (L2.start N vs) H _ (inv_start S hr.hd e0 (len _ _ _ _ hsp) rv ic) hq) (fun fl s' hs => ?_) fun e s' hs => hs
  cases fl with
  | ret u =>
    obtain ⟨v, σ', H', J, rv', q⟩ := hs
    exact ⟨v, H', J.os, J.bare, J.base, J.hok, rv', q⟩
  | next =>
    obtain ⟨σ', H', J, q⟩ := hs
    exact ⟨.non, H', J.os, J.bare, J.base, J.hok, rfl, q⟩
  | brk => exact hs.elim fun _ h => h.elim fun _ h => h.2.elim
  | cont => exact hs.elim fun _ h => h.elim fun _ h => h.2.elim
end
end VL
set_option Elab.async false
set_option linter.all false
set_option maxRecDepth 100000
set_option maxHeartbeats 4000000
/-! VL63: the law's head where the law makes lambdas; the jug as a background with tables -/
namespace VL
open PySem PySem.Spec PyProof.Rows L2
def spLawT (K : PySem.W.Frag) (cs : List (Addr × Addr)) : Sp := fun vs H Q _ => ∃ (a : Addr) (ns : List Int), vs = [.ref a] ∧ SqL K H a (ns.map V.int) ∧ ns.length ≤ 63 ∧ (∀ p ∈ cs, H p.2 = some (.tbl #[])) ∧ ∀ H', Q (.bl true) H'
section
variable {P : Program} {w : World} {K : PySem.W.Frag} {mg : Str → Option Value} {base : Heap} {k k0 : Nat} {st : Stmt} {f fo c : Addr} {fd fdo : FuncData} {N : List Str}
theorem lawXT {ι : Type} (Bf : ι → Bg) (rf : ι → Addr) {T : List (Addr × Str)} {cs : List (Addr × Addr)} (hTc : ∀ p ∈ T, ∃ q ∈ cs, q.2 = p.1) {spO : Sp} {bn on : Str}
    (hO : ∀ (a : Addr) (ns : List Int) (H : Hp) (Q : VK) (E : XK), SqL K H a (ns.map V.int) → ns.length ≤ 63 → (∀ x H', (∀ c o, H c = some o → H' c = some o) → (Bf x).G H' → Q (.ref (rf x)) H') → spO [.ref a] H Q E) {i : Nat} {t : ι → VS} {p1 p2 p3 p4 p5 : Pos} {rest : List Stmt} {nm : Str} (F : Fun K nm nm st f fd) (hc : fd.code = .ref c) (Sc : FnScope N ["_law_script"] (defScope st))
    (hst : defBody st = .Assign [.Name bn p1] (.Call (.Name on p2) [.Name "_law_script" p3] [] p4) p5 :: rest)
    (FO : FnOk P w K mg base (L2.CX P w) k0 fo fdo ["_law_script"] spO) (gO : mg on = some (.ref fo)) (kO : PySem.W.keepIn K (.ref fo) = true) (bO : Binds K fdo ["_law_script"] []) (hk : k0 ≤ k) (hdb : (on == ("__debug__" : Str)) = false := by decide)
    (hi : N[i]? = some bn) (h0 : N[0]? = some ("_law_script" : Str)) (hloc : Loc (defScope st) bn) (hloc0 : (defScope st).names.lookup ("_law_script" : Str) = some .local) (hgl : (defScope st).names.lookup on = some .globalImplicit)
    (hbody : ∀ (x : ι) (A : Around) (outer : List Env) (s : Shared) (H : Hp) (E : XK), Room k (A.deeper (envOfC nm (defScope st) s.heap.objs.size f (.ref c))) → (A.deeper (envOfC nm (defScope st) s.heap.objs.size f (.ref c))).guards = some [] →
      Takes (cxOf (L2.CX P w) P w K mg base N nm (defScope st) f (.ref c) A outer s H E) (WF E) → VSs (cxOf (L2.CX P w) P w K mg base N nm (defScope st) f (.ref c) A outer s H E) (lamB (Bf x) T) (WF E) rest (t x))
    (law : ∀ x, t x (envBag N.length i (rf x)) (fin isTrue' noE)) : FnG P w K mg base (k + 1) f fd ["_law_script"] (spLawT K cs) := by
  refine fnGC F hc Sc (fun vs H Q E ⟨a, ns, e, _⟩ => by rw [e]; rfl) fun A outer s H vs Q E hr hg ⟨a, ns, ev, hS, hl, hT, q⟩ => ?_
  subst ev
  rw [hst]
  have tk : Takes (cxOf (L2.CX P w) P w K mg base N nm (defScope st) f (.ref c) A outer s H E) (WF E) := takes_of rfl rfl rfl rfl
  have hN0 : 0 < N.length := (List.getElem?_eq_some_iff.mp h0).1
  have hNi : i < N.length := (List.getElem?_eq_some_iff.mp hi).1
  refine ⟨_, pss_cons (ps_set (X := cxOf (L2.CX P w) P w K mg base N nm (defScope st) f (.ref c) A outer s H E) (i := i) Sc.nd hi hloc (pe_callS FO (hr.mono hk) ?_ gO kO bO (fun σ => passAt tk σ) (pa_cons (pe_var h0 (.inl hloc0)) pa_nil) hdb) (by rfl) (.inl rfl))
    (pss_ex fun x => hbody x A outer s H E hr hg tk), ?_⟩
  · exact hgl
  · refine ⟨.ref a, ?_, hO a ns _ _ _ hS hl fun x H' kp hG => ⟨x, law_restX (B := lamB (Bf x) T) ⟨hG, fun p hp => LamX.TabS.nil ?_⟩ hN0 hNi (law x) q⟩⟩
    · unfold L2.start
      rfl
    · obtain ⟨q, hq, e⟩ := hTc p hp
      rw [← e]
      exact kp _ _ (hT q hq)
end
theorem noTab_jug {cls : Str → Addr} {r l : Addr} : NoTab (jugB cls r l) := fun H a ⟨gs, x, n, e1, e2, _⟩ h => by
  rcases h with rfl | rfl
  · exact ⟨fun ps z => (by rw [e1] at z; cases z), fun P z => (by rw [e1] at z; cases z)⟩
  · exact ⟨fun ps z => (by rw [e2] at z; cases z), fun P z => (by rw [e2] at z; cases z)⟩
/-! ### what is never reached -/
@[simp] def vNo : VT := fun _ _ _ => False
theorem ve_no {X : Cx} {b : Bg} {W : WX} {e : Expr} : VE X b W e vNo := ⟨fun _ _ _ _ _ _ ⟨_, _, _, _, _, _, q, _⟩ => q.elim⟩
@[simp] def sNo : VS := fun _ _ => False
theorem vss_no {X : Cx} {b : Bg} {W : WX} {sts : List Stmt} : VSs X b W sts sNo := ⟨fun _ _ _ _ _ _ ⟨_, _, _, _, _, _, _, q, _⟩ => q.elim⟩
theorem walkL {l : PySem.W.OpenLaw} {k : Nat} {q : Program} {loose : List Str} {XP : (Str → Option Value) → Heap → Prop} {YP : World → Heap → Prop} {d : DefRec} {K : Params → PySem.W.Frag} {names : List Str}
    (hn : l.most = some 63) (hdf : d.params.defaults = []) (hr : Room k callerA) (hY : ∀ (w : World) (h : Heap), YP w h → (K w.params).In h) (hrec : ∀ x ∈ names, ∃ e, (recsOf q).find? (fun e => e.name == x) = some e)
    (htab : ∀ (w : World), ∃ cs : List (Addr × Addr), TabL (K w.params) names cs ∧
      (∀ (mg : Str → Option Value) (fa : Addr) (h : Heap), (K w.params).In h → h.Ns mainGlobals mg → mg d.name = some (.ref fa) →
        ∃ fd : FuncData, (∀ (s : Shared) (u : Value), BindsTo s fd ⟨[u], []⟩ [("_law_script", u)]) ∧ ∀ base : Heap, (K w.params).In base → base.Ns mainGlobals mg → (∀ p ∈ cs, LamX.TabB base mg p.1 p.2) → FnG l.prog w (K w.params) mg base k fa fd ["_law_script"] (spLawT (K w.params) cs))) :
    PySem.W.WalkO q loose XP YP l.row.toRowW d [] (fun f vs => PySem.call f vs) :=
  walkGT (sp := fun w cs => spLawT (K w.params) cs) hn (by rw [szl]; omega) hdf hr hY hrec fun w => by
    obtain ⟨cs, h1, h2⟩ := htab w
    exact ⟨cs, h1, h2, fun H a ns hl hT hS => ⟨a, ns, rfl, hS, hl, hT, fun _ => rfl⟩⟩
theorem tabIn_of {K : PySem.W.Frag} {x : Str} {f c Pt : Addr} {o o2 : Obj} {fd : FuncData} {vs : Array Value} (a : PySem.W.nsIn K mainGlobals x = some (some (.ref f))) (l : K.lookup f = some o) (d : o.data = .func fd) (e : fd.code = .ref c) (m : K.lookup c = some o2) (d2 : o2.data = .fields vs) (v : vs[11]? = some (.ref Pt)) : PySem.W.tabIn K x = some (c, Pt) := by
  obtain ⟨oc, od, dt, sl⟩ := o
  obtain ⟨oc2, od2, dt2, sl2⟩ := o2
  simp only at d d2
  subst d d2
  unfold PySem.W.tabIn
  rw [a]
  simp only [l, e, m, v]
end VL
set_option Elab.async false
set_option linter.all false
set_option maxRecDepth 100000
set_option maxHeartbeats 4000000
/-! VL64: sorted(set(t)), t a tuple of ints -/
namespace VL
open PySem PySem.Spec PyProof.Rows L2
section
variable {X : Cx}
def tSortSet (K : PySem.W.Frag) (ta : TE) : TE := fun σ H Q => ta σ H fun x H1 => ∃ (l : Addr) (ns : List Int), x = V.ref l ∧ SqT K H1 l (ns.map V.int) ∧ ns.length < 63 ∧ ∀ (ks : List Int) (p : Addr), ks.Pairwise (· < ·) → (∀ j, j ∈ ks ↔ j ∈ ns) → H1 p = none → Q (.ref p) (upd H1 p (.lst (ks.map V.int)))
theorem pe_sortSet {a : Expr} {ta : TE} {p p2 q pos : Pos} (hc : X.calm = true) (hg : Gl X "sorted") (hm : X.mg "sorted" = none) (hg2 : Gl X "set") (hm2 : X.mg "set" = none) (ha : PE X a ta)
    (na : starEach [a] X.env = (false, eval a X.env) :: starEach [] X.env := by rfl) : PE X (.Call (.Name "sorted" p) [.Call (.Name "set" p2) [a] [] q] [] pos) (tSortSet X.K ta) := by
  refine ⟨fun pins s σ H Q I h => ?_⟩
  refine Call_ (ld_blt I hg hm bb_sorted ?_)
  refine PyProof.Rows.callWith_builtin1 (PyProof.Rows.args_cons ?_ rfl) rfl rfl
  refine Call_ (ld_blt I hg2 hm2 PyProof.Rows.boot_set ?_)
  refine PyProof.Rows.callWith_type1 (PyProof.Rows.args_cons (thn (ha.run pins s σ H _ I h) fun v s1 ⟨x, H1, I1, r1, q1⟩ => PyProof.Rows.args_nil ?_) na) na rfl
  obtain ⟨l, ns, rfl, hq, h1, q1⟩ := q1
  cases r1
  obtain ⟨its, r, pl, hz⟩ := I1.tuple hq
  refine call_set_tupI (P := X.prog) ns (I1.ok.hd hc) pl (by simpa using r.ints) (by unfold scanBound; omega) fun h' tk c hS hcn hk => ?_
  refine PyProof.Rows.args_nil ?_
  have I2 : Inv X pins σ H1 { s1 with heap := h', toks := tk } := I1.kept hk
  have R : SetR X.w ({ s1 with heap := h', toks := tk } : Shared).heap s1.heap.objs.size (fun j => decide (j ∈ ns)) c := hS
  generalize ({ s1 with heap := h', toks := tk } : Shared) = s3 at I2 R ⊢
  refine sorted_set R (I2.ok.hd hc) (by omega) fun s2 p out c2 ks k g o hp hgd hi hs hme hl => ?_
  have fresh : H1 p = none := I2.hok.fresh hp
  have size : (ks.map V.int).length ≤ sizeLine := by rw [List.length_map, szl]; omega
  have J : Inv X pins σ (upd H1 p (.lst (ks.map V.int))) { s3 with heap := s2.heap, gens := s2.gens, drawn := s2.drawn, toks := s2.toks } :=
    I2.call (ch := []) (Un.laid k hp fresh) (I2.hok.laid k hp ⟨size, out.toList, c2, vals_of_ints hi, hgd⟩) (by rw [g]; exact I2.bare) (fun _ z => nomatch z)
  have e : s2 = { s3 with heap := s2.heap, gens := s2.gens, drawn := s2.drawn, toks := s2.toks } := by
    cases s2
    cases s3
    cases o
    rfl
  rw [e]
  exact ⟨.ref p, _, J, rfl, q1 ks p hs (fun j => by rw [hme j]; simp) fresh⟩
end
@[simp] def vSortSet (t : VT) : VT := fun ρ Q E => t ρ (fun d => ∃ xs ns, d = .py (.tuple xs) ∧ allI xs = some ns ∧ ns.length < 63 ∧ ∀ ks : List Int, ks.Pairwise (· < ·) → (∀ j, j ∈ ks ↔ j ∈ ns) → Q (.py (.list (ks.map PyData.int)))) E
theorem ve_sortSet {X : Cx} {b : Bg} {W : WX} {a : Expr} {t : VT} {p p2 q pos : Pos} (hc : X.calm = true) (hg : Gl X "sorted") (hm : X.mg "sorted" = none) (hg2 : Gl X "set") (hm2 : X.mg "set" = none) (ha : VX X b W a t)
    (na : starEach [a] X.env = (false, eval a X.env) :: starEach [] X.env := by rfl) : VE X b W (.Call (.Name "sorted" p) [.Call (.Name "set" p2) [a] [] q] [] pos) (vSortSet t) :=
  pe_mono (pe_sortSet hc hg hm hg2 hm2 ha na) fun σ H Q ⟨Zo, Z, ρ, Qd, Ed, v, q, l, m⟩ => ⟨Zo, Z, ρ, _, Ed, v, q, fun x H1 d x1 g1 r1 ⟨xs, ns, ed, e, hl, q1⟩ => by
    subst ed
    obtain ⟨a, oa, us, rfl, ha, da, na, qa⟩ := r1.tuple
    rw [allI_of e] at qa
    have eu := qa.ints
    subst eu
    exact ⟨a, ns, rfl, SqT.th ha, hl, fun ks p h1 h2 hp => l _ _ (.py (.list (ks.map PyData.int))) (x1.trans (Ex.new hp)) (Bg.new g1 hp) (Rq.lst upd_same ((v.ex x1 g1).fresh hp) (Rqs.of_ints ks)) (q1 ks h1 h2)⟩, m⟩
end VL
set_option Elab.async false
set_option linter.all false
set_option maxRecDepth 100000
set_option maxHeartbeats 4000000
/-! VL65: t * k, k at least 1, of a tuple that is not empty -/
namespace VL
open PySem PySem.Spec PyProof.Rows L2
open AutoSeq1 (wpAny_loadPart')
theorem tuple_mul1 (l : Addr) (items : Array Value) (n : Nat) (dd : Option Addr) (sl : Array (Option Value)) (u : Tok) :
    Meets (Builtin.«tuple.__mul__» ⟨[.ref l, .int 1 u], []⟩) (fun _ R s => s.heap.get? l = some { cls := .type "tuple", dict := dd, data := .seq items n, slots := sl } ∧ R (.ok (.ret (Value.ref l))) s) :=
  .of_wp fun prog w A R s h => by
    obtain ⟨hp, g, d, tk, os⟩ := s
    obtain ⟨hl, h⟩ := h
    have f1 := AutoSeq1.idx_int
    wp_walk using wpAny_loadPart' hl
    exact ⟨_, rfl, h⟩
def rRep1 (K : PySem.W.Frag) : R2 := fun x y H Q => ∃ l xs, x = .ref l ∧ y = .int 1 ∧ SqT K H l xs ∧ Q (.ref l) H
section
variable {X : Cx}
theorem op_rep1 : OpR X (binaryOp .Mult) (rRep1 X.K) := by
  intro pins s σ H x y v u Q I rx ry ⟨l, xs, ex, ey, hT, q⟩
  subst ex ey
  obtain rfl : v = .ref l := rx
  obtain ⟨t, rfl⟩ := ry
  obtain ⟨its, r, ⟨o, ho, hc, n, hd⟩, hs⟩ := I.tuple hT
  obtain ⟨oc, dd, dt, slt⟩ := o
  obtain rfl : oc = .type "tuple" := hc
  obtain rfl : dt = .seq its.toArray n := hd
  have road := tuple_mul1 l its.toArray n dd slt t
  refine wpAny_binaryOp_repeat_ref (U := "int") (T := "tuple") (by decide) ⟨_, ho, rfl⟩ (typeIs_int · 1 t) noFill_tuple_mul F.fills_int_mul F.slot_int_rmul repeat_tuple F.slot_int_index.lookup ?_
  refine call_meets F.slot_int_rmul (typeIs_int s 1 t) F.entry_int_rmul (F.args_int_rmul_2 _ _) (int_rmul_tuple 1 t l _ n dd slt) ⟨ho, rfl, ⟨_, ho, rfl⟩, ?_⟩
  exact call_meets F.slot_tuple_mul ⟨_, ho, rfl⟩ F.entry_tuple_mul (F.args_tuple_mul_2 _ _) road ⟨ho, ⟨.ref l, H, I, rfl, q⟩⟩
end
section
variable {X : Cx} {b : Bg} {W : WX} {e1 e2 : Expr} {t1 t2 : VT} {pos : Pos}
@[simp] def gMulP : D → D → (D → Prop) → Prop
  | .py (.tuple xs), .py (.int k), Q => (xs ≠ [] ∧ 1 ≤ k ∧ k ≤ 1000 ∧ xs.length ≤ 1000) ∧ Q (.py (.tuple (List.replicate k.toNat xs).flatten))
  | _, _, _ => False
theorem rd_mulP : OpD b (RE b) (fun x y H Q => rRepF X.K x y H Q ∨ rRep1 X.K x y H Q) gMulP := by
  intro Z H x y dx dy Q Qd gd rx ry h k
  match dx, dy, h, rx, ry with
  | .py (.tuple xs), .py (.int n), ⟨⟨h0, h1, h2, h3⟩, h⟩, rx, ry =>
    have ey := ry.int
    obtain ⟨a, oa, us, rfl, ha, da, na, qa⟩ := rx.tuple
    by_cases e1 : n = 1
    · subst e1
      have e : (List.replicate (1 : Int).toNat xs).flatten = xs := by simp
      rw [e] at h
      exact .inr ⟨a, us, rfl, ey, SqT.th ha, k _ H (.py (.tuple xs)) Ex.refl gd.g (.tup ha da na qa) h⟩
    · refine .inl ⟨a, n, us, rfl, ey, SqT.th ha, fun e => h0 ?_, by omega, h2, by rw [qa.length]; exact h3, fun p o hp ho => k _ _ (.py (.tuple _)) (Ex.new hp) (gd.new hp) (.tup upd_same ho (gd.fresh hp) ?_) h⟩
      · subst e
        cases qa
        rfl
      · exact (qa.rep n.toNat).up hp
theorem ve_mulP (h1 : VX X b W e1 t1) (h2 : VX X b W e2 t2) : VE X b W (.BinOp e1 .Mult e2 pos) (vBin gMulP t1 t2) := ve_op (OpR.or op_repF op_rep1) rd_mulP h1 h2
end
end VL
set_option Elab.async false
set_option linter.all false
set_option maxRecDepth 100000
set_option maxHeartbeats 4000000
/-! VL66: a caught error handed to a def that asks it -/
namespace VL
open PySem PySem.Spec PyProof.Rows L2
open L2H (PinOk RoomH cxH inv_startH)
abbrev SE := Er → (D → Prop) → Prop
def svE (a : Addr) (d : Option Addr) (er : Er) (S : SE) : SV := fun ds Q _ => ds = [.err a d er.n er.fs] ∧ S er Q
theorem mark_same {A : Around} {v : Value} (h : A.handled = some v) : A.mark (some v) = A := by
  cases A
  simp only at h
  subst h
  rfl
/-- what such a def promises: within a suite, of the error that is handled -/
structure FnE (P : Program) (w : World) (K : PySem.W.Frag) (mg : Str → Option Value) (base : Heap) (b : Bg) (k : Nat) (f : Addr) (fd : FuncData) (ps : List Str) (S : SE) : Prop where
  len : ps.length = 1
  run : ∀ (A : Around) (outer : List Env) (s : Shared) (H : Hp) (args : Args) (Q : VK) (p : Addr × Obj) (d : Option Addr) (er : Er), RoomH k A → A.handled = some (.ref p.1) → (∃ vs : Array Value, p.2.data = .fields vs) → Zc (.ref (b.cls er.n)) d p.2 → PinOk outer H s p →
    Env0 P w K mg base A outer s H → BindsTo s fd args (ps.zip [.ref p.1]) → spV b (svE p.1 d er S) [.ref p.1] H Q (fun _ _ _ => False) → codeAny (model P w) A (.call (.ref f) args) (CR (L2.CX P w) outer P w H s Q (fun _ _ _ => False)) s
section
variable {P : Program} {w : World} {K : PySem.W.Frag} {mg : Str → Option Value} {base : Heap} {b : Bg} {k : Nat} {x qual : Str} {st : Stmt} {f : Addr} {fd : FuncData} {N ps : List Str} {S : SE}
theorem inv_sup {X : Cx} {a : Addr} {pins : List (Addr × Obj)} {σ : L2.St} {H : Hp} {s : Shared} {pn : List (Addr × Obj)} (hh : X.A.handled = some (.ref a)) (J : Inv { X with calm := false, pn := pn } pins σ H s) : Inv (X.suite a pn) pins σ H s := by
  have o := J.ok
  refine ⟨⟨o.mod, o.kind, o.glob, o.blt, o.above, o.inj, o.has, o.cab, fun z => Bool.noConfusion (show false = true from z), ?_, o.stk, o.exf, o.bs, o.bsz, o.noex, o.exfs, o.funs, o.frf⟩, J.os, J.bare, J.base, J.loc, J.cell, J.free, J.freeC, J.pin, J.hok, J.len⟩
  exact o.frames
theorem fnE (F : Fun K x qual st f fd) (Sc : FnScope N ps (defScope st)) {t : Addr → Option Addr → Er → VS} (h1 : ps.length = 1) (hps : 1 ≤ N.length)
    (hbody : ∀ (cdv : Value) (A : Around) (outer : List Env) (s : Shared) (H : Hp) (a : Addr) (oe : Obj) (er : Er) (d : Option Addr), RoomH k (A.deeper (envOfC qual (defScope st) s.heap.objs.size f cdv)) → Zc (.ref (b.cls er.n)) d oe → (∃ vs, oe.data = .fields vs) →
      VSs ((cxOf (L2.CX P w) P w K mg base N qual (defScope st) f cdv A outer s H (fun _ _ _ => False)).suite a ((a, oe) :: [])) b noW (defBody st) (t a d er))
    (hlaw : ∀ a d er Q E, S er Q → t a d er (envOf N.length [.err a d er.n er.fs]) (fin Q E)) : FnE P w K mg base b (k + 1) f fd ps S := by
  refine ⟨h1, fun A outer s H args Q p d er hr hh hf hz hpin e0 hb hsp => ?_⟩
  obtain ⟨oc, od, kV, doc, pm, an, cdv, ct, osl, rfl, lk, hcd⟩ := F.ex
  have KX : K.In s.heap := e0.mod.kin.keeps fun b o e => (e0.bs b o e).1
  have lim : s.heap.NoLimit := e0.mod.nolimit.keeps fun b o e => (e0.bs b o e).1
  have hkind : ∀ y ∈ ps.zip [Value.ref p.1], (defScope st).names.lookup y.1 = some .local ∨ ((defScope st).names.lookup y.1 = some .cell ∧ ((cellsFrom (s.heap.objs.size + 1) (defScope st).names []).lookup y.1).isSome = true) := fun ⟨n, v⟩ hy =>
    (Sc.par n (List.of_mem_zip hy).1).imp id fun q => ⟨q, PySem.W.cellsFrom_some _ _ _ (.inl q)⟩
  refine codeAny_call_function hr.depth (KX _ _ lk) rfl Sc.co Sc.gen rfl (PySem.W.codeRec_of KX hcd) (hb _ _ _ _ (wpAny_newFunctionEnv_cells Sc.kind hkind fun env he s1 ic => ?_))
  subst he
  refine ⟨lim.keeps ic.toInCall.keep, codeAny_func ?_⟩
  have J0 : Inv (cxH (L2.CX P w) P w K mg base N qual (defScope st) f cdv A outer s H (fun _ _ _ => False) p) [] (L2.start N [.ref p.1]) H s1 := inv_startH (vs := [.ref p.1]) (us := [.ref p.1]) Sc hpin e0 (by simp [h1]) (.cons rfl .nil) ic
  have hh' : (cxOf (L2.CX P w) P w K mg base N qual (defScope st) f cdv A outer s H (fun _ _ _ => False)).A.handled = some (.ref p.1) := hh
  have J1 := inv_sup (X := cxOf (L2.CX P w) P w K mg base N qual (defScope st) f cdv A outer s H (fun _ _ _ => False)) (pn := [p]) hh' J0
  have walk := (hbody cdv A outer s H p.1 p.2 er d (hr.deeper _) hz hf).run [] s1 (L2.start N [.ref p.1]) H { nx := fun _ H' => Q .non H', rt := Q } J1 ?_
  · have eA : (A.deeper (envOfC qual (defScope st) s.heap.objs.size f cdv)).mark (some (.ref p.1)) = A.deeper (envOfC qual (defScope st) s.heap.objs.size f cdv) := mark_same hh'
    have walk' : wpAny (model P w) ((A.deeper (envOfC qual (defScope st) s.heap.objs.size f cdv)).mark (some (.ref p.1))) _ _ _ s1 := walk
    rw [eA] at walk'
    refine wpAny_mono walk' (fun fl s' hs => ?_) fun e s' hs => hs.elim
    cases fl with
    | ret u =>
      obtain ⟨v, σ', H', J, rv', q⟩ := hs
      exact ⟨v, H', J.os, J.bare, J.base, J.hok, rv', q⟩
    | next =>
      obtain ⟨σ', H', J, q⟩ := hs
      exact ⟨.non, H', J.os, J.bare, J.base, J.hok, rfl, q⟩
    | brk => exact hs.elim fun _ h => h.elim fun _ h => h.2.elim
    | cont => exact hs.elim fun _ h => h.elim fun _ h => h.2.elim
  · exact fin_link (S := svE p.1 d er S) (fun ds Q E ⟨e, h⟩ => by subst e; exact hlaw _ _ _ Q E h) (by simpa using hps) hsp
end
/-- a def that asks an error: all that its call wants -/
structure CalE (P : Program) (w : World) (K : PySem.W.Frag) (mg : Str → Option Value) (base : Heap) (b : Bg) (k : Nat) (x : Str) (ps : List Str) (S : SE) where
  f : Addr
  fd : FuncData
  F : FnE P w K mg base b k f fd ps S
  g : mg x = some (.ref f)
  kp : PySem.W.keepIn K (.ref f) = true
  bd : Binds K fd ps []
@[simp] def vCallE (a : Addr) (d : Option Addr) (er : Er) (i : Nat) (S : SE) : VT := fun ρ Q _ => ρ[i]? = some (.shr (.err a d er.n er.fs)) ∧ S er Q
section
variable {X : Cx} {b : Bg} {W : WX} {a : Addr} {oe : Obj} {er : Er} {d : Option Addr} {pn : List (Addr × Obj)} {i k : Nat} {x : Str} {ps : List Str} {S : SE} {e : Expr} {p pos : Pos}
theorem ve_callE (c : CalE X.prog X.w X.K X.mg X.base b k x ps S) (hz : Zc (.ref (b.cls er.n)) d oe) (hf : ∃ vs, oe.data = .fields vs) (hd : X.A.depth + 3 * k + 5 < recursionLimit) (hu : X.A.units + 16 * k + 200 < cLine) (hg : Gl X x) (he : PE (X.suite a ((a, oe) :: pn)) e (tVar i))
    (hdb : (x == ("__debug__" : Str)) = false := by decide) (hs : starEach [e] X.env = (false, eval e X.env) :: starEach [] X.env := by rfl) (hpl : (backTo pos (starEach ([] : List Expr) X.env)).any (·.1) = false := by rfl) :
    VE (X.suite a ((a, oe) :: pn)) b W (.Call (.Name x p) [e] [] pos) (vCallE a d er i S) := by
  refine ⟨fun pins s σ H Q I ⟨Zo, Z, ρ, Qd, Ed, v, ⟨hρ, k1⟩, l, _⟩ => ?_⟩
  obtain ⟨u, hu1, ru⟩ := v.shr i _ hρ
  obtain ⟨eu, _⟩ := err_dict ru
  subst eu
  refine wpAny_Call_Name_kw (ld_glob (X := X.suite a ((a, oe) :: pn)) I hg c.g ?_ hdb)
  refine PySem.W.callWith_K (h₀ := X.base) I.ok.mod.kin c.kp (thn ((pa_cons he pa_nil hs).run pos pins s σ H (fun vs H1 => vs = [.ref a] ∧ H1 = H) I ⟨.ref a, hu1, rfl, rfl⟩) fun us s1 ⟨vs, H1, I1, r, ev, eH⟩ => ⟨I1.kIn, ?_⟩) hs hpl
  subst ev eH
  obtain ⟨u1, rfl, r1⟩ : ∃ u1, us = [u1] ∧ RelV (.ref a) u1 := by
    cases r with
    | cons r1 r2 => cases r2; exact ⟨_, rfl, r1⟩
  cases (show u1 = Value.ref a from r1)
  have P1 := I1.pin (a, oe) (List.mem_append.mpr (.inl List.mem_cons_self))
  have hpin : PinOk X.stack H1 s1 (a, oe) := ⟨P1.1, P1.2.1, fun hm => (List.mem_cons.mp (I1.stkSub a hm)).elim P1.2.2.1 P1.2.2.2.1, P1.2.2.2.2⟩
  have b1 := c.bd s1 [.ref a] I1.kIn (by rw [List.append_nil, c.F.len]; rfl)
  rw [List.append_nil] at b1
  refine wpAny_call (codeAny_mono (c.F.run (X.A.mark (some (.ref a))) X.stack s1 H1 ⟨[.ref a], []⟩ Q (a, oe) d er ⟨hd, hu⟩ rfl hf hz hpin I1.env0 b1 ⟨Z, [.err a d er.n er.fs], Qd, fun _ => False, v.gd, .cons ru .nil, ⟨rfl, k1⟩, fun y H2 dv x2 g2 r2 q2 => l y H2 dv x2 g2 r2 q2, fun _ _ _ _ _ _ _ h => h⟩) fun r s' hq => ?_)
  match r, hq with
  | .error e, hq => obtain ⟨_, _, _, _, _, _, _, _, _, _, _, _, z⟩ := hq; exact z.elim
  | .ok (.ret u), hq => exact I1.after hq
  | .ok .next, hq => exact (show False from hq).elim
  | .ok .brk, hq => exact (show False from hq).elim
  | .ok .cont, hq => exact (show False from hq).elim
end
end VL
set_option Elab.async false
set_option linter.all false
set_option maxRecDepth 100000
set_option maxHeartbeats 4000000
/-! VL67: the crank: a list of two numbers and a list -/
namespace VL
open PySem PySem.Spec PyProof.Rows L2
def crankAt (r l : Addr) (gs : List Int) (H : Hp) : Prop := ∃ x n : Int, H r = some (.lst [.int x, .int n, .ref l]) ∧ H l = some (.lst (gs.map V.int)) ∧ gs.length ≤ 63
theorem crankAt.ne {r l : Addr} {gs : List Int} {H : Hp} (h : crankAt r l gs H) : r ≠ l := fun e => by
  obtain ⟨x, n, h1, h2, _⟩ := h
  subst e
  rw [h1] at h2
  match gs, h2 with
  | [], h2 => cases h2
  | [_], h2 => cases h2
  | [_, _], h2 => cases h2
  | _ :: _ :: _ :: _, h2 => cases h2
def crankB (cls : Str → Addr) (r l : Addr) : Bg where
  cls := cls
  B := fun a => a = r ∨ a = l
  G := fun H => ∃ gs, crankAt r l gs H
  loc := fun H H' h _ ⟨gs, x, n, e1, e2, e3⟩ => ⟨gs, x, n, by rw [h r (.inl rfl)]; exact e1, by rw [h l (.inr rfl)]; exact e2, e3⟩
  dom := fun H a ⟨gs, x, n, e1, e2, e3⟩ h => by
    rcases h with rfl | rfl
    · rw [e1]; simp
    · rw [e2]; simp
theorem KeepJ.exC {cls : Str → Addr} {r l : Addr} {H H' : Hp} (k : KeepJ r l H H') : Ex (crankB cls r l) H H' := fun a o e n => k a o e (fun h => n (.inl h)) fun h => n (.inr h)
def spWind : Sp := fun vs H Q _ => ∃ r l gs, ∃ m : Int, vs = [.ref r, .int m] ∧ crankAt r l gs H ∧ 0 < m ∧ m < 1073741824 ∧ ∀ H' gs' x, KeepJ r l H H' → crankAt r l gs' H' → 0 ≤ x → x < m → Q (.int x) H'
theorem wind_v {P : Program} {w : World} {K : PySem.W.Frag} {mg : Str → Option Value} {base : Heap} {k : Nat} {f : Addr} {fd : FuncData} {ps : List Str} {CX : CXT} {cls : Str → Addr} {r l1 : Addr} (h : FnOk P w K mg base CX k f fd ps spWind) : FnOk P w K mg base CX k f fd ps (spV (crankB cls r l1) (svTake r)) :=
  h.imp fun vs H Q E ⟨Z, ds, Qd, Ed, g, rp, hh, l, _⟩ => by
    obtain ⟨m, ed, h1, h2, q⟩ := svTake_ex hh
    subst ed
    obtain ⟨x, y, rfl, rx, ry⟩ := rbs2 rp
    have ex : x = .ref r := rx
    have ey : y = .int m := Rb.int (b := crankB cls r l1) (.inl ry)
    subst ex ey
    obtain ⟨gs, hb⟩ := g.g
    exact ⟨r, l1, gs, m, rfl, hb, h1, h2, fun H' gs' x kp b' x0 x1 => l (.int x) H' (.py (.int x)) kp.exC ⟨gs', b'⟩ (.int x) (q x x0 x1)⟩
def spCrank (K : PySem.W.Frag) : Sp := fun vs H Q _ => ∃ (a : Addr) (ns : List Int), vs = [.ref a] ∧ SqL K H a (ns.map V.int) ∧ ns.length ≤ 63 ∧ ∀ r l H', (∀ c o, H c = some o → H' c = some o) → (∃ gs, crankAt r l gs H') → Q (.ref r) H'
end VL
set_option Elab.async false
set_option linter.all false
set_option maxRecDepth 100000
set_option maxHeartbeats 4000000
namespace LawP
open PySem PySem.Spec PyProof.Rows L2 VL
def t_word_with : VS :=
  (sSeq (sPar [1, 2] (mCons true (vLst vNil) (mCons false (vC (.py (.int 0))) mNil)))
  (sSeq (sFor (iS (vVar 0)) (tgName 3)
  (sSeq (sMut 1 gApp (vCons (vBin gAdd (vBin gMulA (vC (.py (.str "s"))) (vBin gSub (vBor 3) (vBor 2))) (vC (.py (.str "a")))) vNil))
  (sSet 2 (vVar 3))))
  (sRet (vBin gAdd (vMth isS gTJoin (vC (.py (.str ""))) (vCons (vBor 1) vNil)) (vBin gMulA (vC (.py (.str "s"))) (vBin gSub (vCal gLen (vCons (vBor 0) vNil)) (vBor 2)))))))
def t_is_integer : VS :=
  (sRet (vAnd (vCal gIsi (vCons (vBor 0) (vCons (vC (.raw (.ty "int"))) vNil))) (vAnd (vNot (vCal gIsi (vCons (vBor 0) (vCons (vC (.raw (.ty "bool"))) vNil)))) (vChain gLe gLe (vBor 1) (vBor 0) (vBor 2)))))
def t_word_from (S_is_integer : SV) (S_word_with : SV) : VS :=
  (sSeq (sIf (wNot (vTst (vChain gLe gLe (vC (.py (.int 1))) (vCal gLen (vCons (vBor 0) vNil)) (vC (.py (.int 40))))))
  (sRaise1 "TooLarge" "limit" (vC (.py (.int 40))))
  sNext)
  (sSeq (sFor (iEn (vCons (vVar 0) vNil)) (tgTup 2 (tgCons (tgName 1) (tgCons (tgName 2) tgNil)))
  (sIf (wNot (vTst (vCall S_is_integer (vCons (vVar 2) (vCons (vIf (vTst (vBin gGt (vBor 1) (vC (.py (.int 0))))) (vBin gIx (vBor 0) (vBin gSub (vBor 1) (vC (.py (.int 1))))) (vC (.py (.int 0)))) (vCons (vVar 1) vNil))))))
  (sRaise1 "BadCount" "index" (vVar 1))
  sNext))
  (sRet (vCall S_word_with (vCons (vVar 0) vNil)))))
end LawP
set_option Elab.async false
set_option linter.all false
set_option maxRecDepth 100000
set_option maxHeartbeats 4000000
namespace LawP
open PySem PySem.Spec PyProof.Rows L2 VL
def t_law_word (S_law_take : SV) : VS :=
  (sSeq (sPar [3, 4, 5] (mCons true (vLst vNil) (mCons false (vC (.py (.int 0))) (mCons false (vVar 1) mNil))))
  (sSeq (sWhile (vTst (vBin gGt (vBin gAdd (vBor 5) (vBor 4)) (vC (.py (.int 0)))))
  (sSeq (sSet 6 (vBin gIx (vLst (vCons (vCall S_law_take (vCons (vVar 0) (vCons (vC (.py (.int 2))) vNil))) (vCons (vC (.py (.int 1))) (vCons (vC (.py (.int 0))) (vCons (vCal gInt (vCons (vBin gGt (vCall S_law_take (vCons (vVar 0) (vCons (vC (.py (.int 5))) vNil))) (vC (.py (.int 0)))) vNil)) (vCons (vCal gInt (vCons (vBin gGt (vBor 4) (vC (.py (.int 2)))) vNil)) vNil)))))) (vBor 2)))
  (sIf (wOr (vTst (vBin gEq (vBor 5) (vC (.py (.int 0))))) (wAnd (vTst (vBin gGt (vBor 4) (vC (.py (.int 0))))) (vTst (vBin gEq (vBor 6) (vC (.py (.int 1)))))))
  (sSeq (sMut 3 gApp (vCons (vC (.py (.str "s"))) vNil))
  (sSet 4 (vBin gSub (vBor 4) (vC (.py (.int 1))))))
  (sSeq (sMut 3 gApp (vCons (vC (.py (.str "a"))) vNil))
  (sPar [4, 5] (mCons false (vBin gAdd (vBor 4) (vC (.py (.int 1)))) (mCons false (vBin gSub (vBor 5) (vC (.py (.int 1)))) mNil)))))))
  (sRet (vMth isS gTJoin (vC (.py (.str ""))) (vCons (vBor 3) vNil)))))
def t_law_odd (S_law_pick : SV) : VS :=
  (sSeq (sSet 1 (vLst (vCons (vC (.py .none)) (vCons (vC (.py (.bool true))) (vCons (vC (.py (.bool false))) (vCons (vUn gNeg (vC (.py (.int 1)))) (vCons (vC (.py (.int 0))) (vCons (vC (.py (.int 1))) (vCons (vC (.py (.int 40))) (vCons (vBin gAdd (vBin gPow (vC (.py (.int 10))) (vC (.py (.int 9)))) (vC (.py (.int 1)))) (vCons (vBin gPow (vC (.py (.int 10))) (vC (.py (.int 39)))) (vCons (vC (.py (.str ""))) (vCons (vC (.py (.str "a"))) (vCons (vC (.py (.str "as"))) (vCons (vC (.py (.str "0"))) (vCons (vTup vNil) (vCons (vLst vNil) (vCons vD0 (vCons (vTup (vCons (vC (.py (.int 0))) vNil)) (vCons (vLst (vCons (vC (.py (.int 0))) vNil)) (vCons (vTup (vCons (vC (.py (.bool true))) vNil)) vNil)))))))))))))))))))))
  (sRet (vCall S_law_pick (vCons (vVar 0) (vCons (vBin gAdd (vBor 1) (vLst (vCons (vTup (vCons (vC (.py (.str "a"))) (vCons (vC (.py (.str "s"))) vNil))) (vCons (vTup (vCons (vC (.py (.int 0))) (vCons (vC (.py (.int 0))) vNil))) (vCons (vC (.py (.str "none"))) (vCons (vD1 (.inr "a") (vC (.py (.int 0)))) (vCons (vTup (vCons (vC (.py (.int 1))) (vCons (vC (.py (.int 0))) vNil))) vNil))))))) vNil)))))
def t_law_twisted (S_law_take : SV) (S_law_pick : SV) : VS :=
  (sSeq (sSet 2 (vCall S_law_take (vCons (vVar 0) (vCons (vBin gAdd (vCal gLen (vCons (vBor 1) vNil)) (vC (.py (.int 1)))) vNil))))
  (sSeq (sSet 3 (vCall S_law_pick (vCons (vVar 0) (vCons (vLst (vCons (vC (.py (.str "a"))) (vCons (vC (.py (.str "s"))) (vCons (vC (.py (.str "x"))) (vCons (vC (.py (.str "A"))) (vCons (vC (.py (.str " "))) (vCons (vC (.py (.str "\n"))) (vCons (vC (.py (.str ""))) (vCons (vC (.py (.str "ss"))) (vCons (vC (.py (.str "aa"))) vNil)))))))))) vNil))))
  (sSeq (sSet 4 (vLst (vCons (vBin gAdd (vBin gAdd (vSl gSl (vBor 1) oNo (oAt (vBor 2))) (vBor 3)) (vSl gSl (vBor 1) (oAt (vBor 2)) oNo)) (vCons (vBin gAdd (vBin gAdd (vSl gSl (vBor 1) oNo (oAt (vBor 2))) (vBor 3)) (vSl gSl (vBor 1) (oAt (vBin gAdd (vBor 2) (vC (.py (.int 1))))) oNo)) (vCons (vBin gAdd (vSl gSl (vBor 1) oNo (oAt (vBor 2))) (vSl gSl (vBor 1) (oAt (vBin gAdd (vBor 2) (vC (.py (.int 1))))) oNo)) (vCons (vBkA (vBor 1) (oAt (vUn gNeg (vC (.py (.int 1)))))) vNil))))))
  (sRet (vCall S_law_pick (vCons (vVar 0) (vCons (vBin gAdd (vBor 4) (vLst (vCons (vSl gSl (vBor 1) oNo (oAt (vBor 2))) (vCons (vBin gAdd (vBor 1) (vBor 3)) (vCons (vBin gAdd (vSl gSl (vBor 1) (oAt (vBor 2)) oNo) (vSl gSl (vBor 1) oNo (oAt (vBor 2)))) vNil))))) vNil)))))))
def t_law_fault : VS :=
  (sSeq (sIf (wNot (vTst (vCal gIsi (vCons (vBor 1) (vCons (vC (.raw (.ty "str"))) vNil)))))
  (sRet (vTup (vCons (vC (.py .none)) (vCons (vC (.py (.str "string"))) vNil))))
  sNext)
  (sSeq (sFor (iR1 (vCons (vCal gLen (vCons (vBor 1) vNil)) vNil)) (tgName 2)
  (sIf (vTst (vBin (gIn true) (vBin gIx (vBor 1) (vBor 2)) (vLst (vCons (vC (.py (.str "a"))) (vCons (vC (.py (.str "s"))) vNil)))))
  (sRet (vTup (vCons (vVar 2) (vCons (vC (.py (.str "letter"))) vNil))))
  sNext))
  (sSeq (sFor (iR1 (vCons (vCal gLen (vCons (vBor 1) vNil)) vNil)) (tgName 2)
  (sSeq (sSet 3 (vSl gSl (vBor 1) oNo (oAt (vBor 2))))
  (sSeq (sIf (wAnd (vTst (vBin gEq (vBin gIx (vBor 1) (vBor 2)) (vC (.py (.str "a"))))) (vTst (vBin gEq (vMth isCt gCount (vBor 3) (vCons (vC (.py (.str "a"))) vNil)) (vCal gLen (vCons (vBor 0) vNil)))))
  (sRet (vTup (vCons (vVar 2) (vCons (vC (.py (.str "arrival"))) vNil))))
  sNext)
  (sIf (wAnd (vTst (vBin gEq (vBin gIx (vBor 1) (vBor 2)) (vC (.py (.str "s"))))) (vTst (vBin gEq (vMth isCt gCount (vBor 3) (vCons (vC (.py (.str "s"))) vNil)) (vMth isCt gCount (vBor 3) (vCons (vC (.py (.str "a"))) vNil)))))
  (sRet (vTup (vCons (vVar 2) (vCons (vC (.py (.str "service"))) vNil))))
  sNext))))
  (sRet (vC (.py .none))))))
def t_word_error : VS :=
  (sSeq (sIf (wNot (vTst (vCal gIsi (vCons (vBor 1) (vCons (vC (.raw (.ty "str"))) vNil)))))
  (sRet (vTup (vCons (vC (.py .none)) (vCons (vC (.py (.str "string"))) vNil))))
  sNext)
  (sSeq (sSet 2 (vLc [5, 6] (iEn (vCons (vBor 1) vNil)) (tgTup 2 (tgCons (tgName 5) (tgCons (tgName 6) tgNil))) (vTst (vBin (gIn true) (vBor 6) (vTup (vCons (vC (.py (.str "a"))) (vCons (vC (.py (.str "s"))) vNil))))) (vVar 5)))
  (sSeq (sIf (vTst (vBin gNe (vBor 2) (vLst vNil)))
  (sRet (vTup (vCons (vBin gIx (vBor 2) (vC (.py (.int 0)))) (vCons (vC (.py (.str "letter"))) vNil))))
  sNext)
  (sSeq (sPar [3, 4] (mCons false (vC (.py (.int 0))) (mCons false (vC (.py (.int 0))) mNil)))
  (sSeq (sFor (iEn (vCons (vVar 1) vNil)) (tgTup 2 (tgCons (tgName 5) (tgCons (tgName 6) tgNil)))
  (sIf (vTst (vBin gEq (vBor 6) (vC (.py (.str "a")))))
  (sSeq (sIf (vTst (vBin gEq (vBor 3) (vCal gLen (vCons (vBor 0) vNil))))
  (sRet (vTup (vCons (vVar 5) (vCons (vC (.py (.str "arrival"))) vNil))))
  sNext)
  (sAugA 3 gAugAdd (vC (.py (.int 1)))))
  (sSeq (sIf (vTst (vBin gEq (vBor 4) (vBor 3)))
  (sRet (vTup (vCons (vVar 5) (vCons (vC (.py (.str "service"))) vNil))))
  sNext)
  (sAugA 4 gAugAdd (vC (.py (.int 1)))))))
  (sRet (vC (.py .none))))))))
def t_is_history (S_word_error : SV) : VS :=
  (sRet (vAnd (vBin (gIsN false) (vCall S_word_error (vCons (vVar 0) (vCons (vVar 1) vNil))) (vC (.py .none))) (vBin gEq (vCal gLen (vCons (vBor 1) vNil)) (vBin gMulA (vC (.py (.int 2))) (vCal gLen (vCons (vBor 0) vNil))))))
end LawP
set_option Elab.async false
set_option linter.all false
set_option maxRecDepth 100000
set_option maxHeartbeats 4000000
namespace LawP
open PySem PySem.Spec PyProof.Rows L2 VL
def t_law_drawn (S_law_take : SV) (S_law_pick : SV) : VS :=
  (sSeq (sPar [2, 3] (mCons false (vBin gAdd (vC (.py (.int 1))) (vCall S_law_take (vCons (vVar 0) (vCons (vVar 1) vNil)))) (mCons false (vCall S_law_take (vCons (vVar 0) (vCons (vC (.py (.int 6))) vNil))) mNil)))
  (sSeq (sSet 4 (vBin gIx (vLst (vCons (vC (.py (.int 2))) (vCons (vC (.py (.int 3))) (vCons (vBin gAdd (vC (.py (.int 1))) (vBin gFdiv (vBor 2) (vC (.py (.int 3))))) (vCons (vVar 2) (vCons (vC (.py (.int 1))) (vCons (vC (.py (.int 4))) vNil))))))) (vBor 3)))
  (sSeq (sSet 5 (vLc [6] (iR1 (vCons (vBor 4) vNil)) (tgName 6) wYes (vCall S_law_pick (vCons (vVar 0) (vCons (vLst (vCons (vVar 6) (vCons (vBin gSub (vBin gPow (vC (.py (.int 10))) (vC (.py (.int 9)))) (vBor 6)) (vCons (vBin gAdd (vBin gMulA (vC (.py (.int 7))) (vBor 6)) (vCall S_law_take (vCons (vVar 0) (vCons (vC (.py (.int 7))) vNil)))) vNil)))) vNil)))))
  (sSeq (sIf (vTst (vBin gEq (vBor 3) (vC (.py (.int 5)))))
  (sRet (vCal gTuple (vCons (vLc [6] (iR1 (vCons (vBor 2) vNil)) (tgName 6) wYes (vBin gIx (vBor 5) (vBin gMod (vBin gFdiv (vBor 6) (vC (.py (.int 2)))) (vBor 4)))) vNil)))
  sNext)
  (sRet (vCal gTuple (vCons (vLc [6] (iR1 (vCons (vBor 2) vNil)) (tgName 6) wYes (vBin gIx (vBor 5) (vCall S_law_take (vCons (vVar 0) (vCons (vVar 4) vNil))))) vNil)))))))
def t_mates : VS :=
  (sSeq (sPar [1, 2] (mCons true (vLst vNil) (mCons true vD0 mNil)))
  (sSeq (sFor (iEn (vCons (vVar 0) vNil)) (tgTup 2 (tgCons (tgName 3) (tgCons (tgName 4) tgNil)))
  (sSeq (sMut 1 gApp (vCons (vDGet2 (vBor 2) (vVar 4) (vC (.py .none))) vNil))
  (sDPutO 2 (vVar 4) (vVar 3))))
  (sRet (vCal gTuple (vCons (vBor 1) vNil)))))
end LawP
set_option Elab.async false
set_option linter.all false
namespace LawP
open PySem VL
/-! ### mates: the mathematics -/
/-- the latest person before i of the group g -/
def lastIn (row : List Int) (g : Int) (i : Nat) : Option Nat := ((List.range i).filter fun j => row[j]? == some g).getLast?
def mateOf (row : List Int) (i : Nat) : Option Nat := (row[i]?).bind fun g => lastIn row g i
def matesL (row : List Int) : List (Option Nat) := (List.range row.length).map (mateOf row)
theorem lastIn_succ (row : List Int) (g : Int) (i : Nat) : lastIn row g (i + 1) = if row[i]? = some g then some i else lastIn row g i := by
  unfold lastIn
  rw [List.range_succ, List.filter_append]
  by_cases h : row[i]? = some g
  · rw [if_pos h]; simp [h]
  · rw [if_neg h]; simp [h]
theorem lastIn_some {row : List Int} {g : Int} {i m : Nat} (h : lastIn row g i = some m) : m < i ∧ row[m]? = some g ∧ ∀ j, m < j → j < i → row[j]? ≠ some g := by
  induction i with
  | zero => simp [lastIn] at h
  | succ i ih =>
    rw [lastIn_succ] at h
    split at h
    · rename_i c
      cases h
      exact ⟨Nat.lt_succ_self _, c, fun j h1 h2 => by omega⟩
    · rename_i c
      obtain ⟨a, b, d⟩ := ih h
      refine ⟨by omega, b, fun j h1 h2 => ?_⟩
      by_cases e : j = i
      · rw [e]; exact c
      · exact d j h1 (by omega)
theorem lastIn_none {row : List Int} {g : Int} {i : Nat} (h : lastIn row g i = none) : ∀ j, j < i → row[j]? ≠ some g := by
  induction i with
  | zero => intro j hj; omega
  | succ i ih =>
    rw [lastIn_succ] at h
    split at h
    · cases h
    · rename_i c
      intro j hj
      by_cases e : j = i
      · rw [e]; exact c
      · exact ih h j (by omega)
theorem mateOf_lt {row : List Int} {i m : Nat} (h : mateOf row i = some m) : m < i ∧ i < row.length := by
  unfold mateOf at h
  cases e : row[i]? with
  | none => rw [e] at h; cases h
  | some g =>
    rw [e] at h
    exact ⟨(lastIn_some h).1, (List.getElem?_eq_some_iff.mp e).1⟩
theorem mateOf_at {row : List Int} {i : Nat} {g : Int} (h : row[i]? = some g) : mateOf row i = lastIn row g i := by unfold mateOf; rw [h]; rfl
end LawP
set_option Elab.async false
set_option linter.all false
set_option maxRecDepth 100000
set_option maxHeartbeats 4000000
namespace LawP
open PySem PySem.Spec PyProof.Rows L2 VL
/-! ### mates -/
def matesP (row : List Int) : PyData := .tuple ((matesL row).map oN)
@[simp] def S_mates : SV := fun ds Q _ => ∃ row : List Int, ds = [.py (tI row)] ∧ row.length ≤ 1000 ∧ Q (.py (matesP row))
theorem l_mates : ∀ ds Q E, S_mates ds Q E → t_mates (envOf 5 ds) (fin Q E) := by
  rintro ds Q E ⟨row, rfl, hl, q⟩
  simp [t_mates, tI, -forGo]
  refine for_inv (fun i ρ => ∃ acc ds x y, ρ = [.shr (.py (tI row)), .own (.py (.list acc)), .own (.py (.dict ds)), x, y] ∧ acc = ((matesL row).take i).map oN ∧ ds.length ≤ i ∧ ∀ g, getD ds (.inl g) = (lastIn row g i).map pN) (fun i d ρ hd iv nx ct hn => ?_) (fun ρ iv => ?_) ⟨[], [], _, _, rfl, by simp, by simp, fun g => by simp [lastIn]⟩
  · obtain ⟨acc, ds, x, y, rfl, ea, h1, h2⟩ := iv
    obtain ⟨g, hg, rfl⟩ := enumP_getD hd
    have hi : i < row.length := (List.getElem?_eq_some_iff.mp hg).1
    have hm : (matesL row)[i]? = some (mateOf row i) := by simp [matesL, hi]
    have la : acc.length = i := by rw [ea]; simp [matesL]; omega
    simp [VL.keyOf, h2]
    refine ⟨by omega, by omega, (hn _ ⟨_, _, _, _, rfl, ?_, ?_, fun g' => ?_⟩).1⟩
    · rw [take_succ_get hm, List.map_append, ea, mateOf_at hg]
      cases lastIn row g i <;> rfl
    · have := putD_len ds (.inl g) (.int i)
      omega
    · rw [getD_putD, lastIn_succ, h2, hg]
      by_cases c : g' = g
      · subst c; simp [pN]
      · simp [c, Ne.symm c]
  · obtain ⟨acc, ds, x, y, rfl, ea, _, _⟩ := iv
    rw [List.take_of_length_le (by simp [matesL, enumP_len])] at ea
    subst ea
    simpa [matesP] using q
/-! ### a drawn row -/
@[simp] def S_law_drawn (r : Addr) : SV
  | [.raw v, .py (.int m)], Q, _ => v = .ref r ∧ 1 ≤ m ∧ m ≤ 40 ∧ ∀ gs : List Int, gs ≠ [] → gs.length ≤ m → (∀ g ∈ gs, 0 ≤ g ∧ g ≤ 1000000000) → Q (.py (.tuple (gs.map PyData.int)))
  | _, _, _ => False
theorem l_law_drawn (r : Addr) : ∀ ds Q E, S_law_drawn r ds Q E → t_law_drawn (svTake r) (svPick r) (envOf 7 ds) (fin Q E)
  | [.raw v, .py (.int m)], Q, E, ⟨hv, h1, h2, q⟩ => by
    subst hv
    simp [t_law_drawn]
    refine ⟨by omega, by omega, fun x x0 x1 w w0 w1 => ?_⟩
    obtain ⟨kn, ek, k1, k2⟩ : ∃ kn : Int, atI [PyData.int 2, PyData.int 3, PyData.int (1 + (1 + x).fdiv 3), PyData.int (1 + x), PyData.int 1, PyData.int 4] w = some (.int kn) ∧ 1 ≤ kn ∧ kn ≤ 40 := by
      have f3 : (1 + x).fdiv 3 = (1 + x) / 3 := Int.fdiv_eq_ediv_of_nonneg _ (by omega)
      rcases (by omega : w = 0 ∨ w = 1 ∨ w = 2 ∨ w = 3 ∨ w = 4 ∨ w = 5) with rfl | rfl | rfl | rfl | rfl | rfl
      · exact ⟨2, rfl, by omega, by omega⟩
      · exact ⟨3, rfl, by omega, by omega⟩
      · exact ⟨_, rfl, by rw [f3]; omega, by rw [f3]; omega⟩
      · exact ⟨_, rfl, by omega, by omega⟩
      · exact ⟨1, rfl, by omega, by omega⟩
      · exact ⟨4, rfl, by omega, by omega⟩
    refine ⟨_, ek, ?_⟩
    simp
    refine ⟨⟨by omega, by omega⟩, ?_⟩
    refine lc_mem (fun p => ∃ g, p = .int g ∧ (0 ≤ g ∧ g ≤ 1000000000)) (fun d hd k hk => ?_) (by simp; omega) fun ps hl hps => ?_
    · obtain ⟨j, hj, rfl⟩ := mem_rangeP hd
      have hj' : (j : Int) < 40 := by omega
      simp [lcStep, AllIn]
      intro y y0 y1
      exact ⟨hk _ ⟨_, rfl, by omega, by omega⟩, hk _ ⟨_, rfl, by omega, by omega⟩, hk _ ⟨_, rfl, by omega, by omega⟩⟩
    obtain ⟨ns, rfl, hns⟩ := ints_of hps
    simp at hl
    have fin : ∀ ps : List PyData, ps.length = (1 + x).toNat → (∀ p ∈ ps, ∃ g, p = PyData.int g ∧ (0 ≤ g ∧ g ≤ 1000000000)) → Q (.py (.tuple ps)) := fun ps e h => by
      obtain ⟨gs, rfl, hg⟩ := ints_of h
      simp at e
      exact q gs (fun z => by rw [z] at e; simp at e; omega) (by omega) hg
    have at_ : ∀ i : Int, 0 ≤ i → i < kn → ∃ d, atI (ns.map PyData.int) i = some d ∧ ∃ g, d = .int g ∧ (0 ≤ g ∧ g ≤ 1000000000) := fun i i0 i1 => by
      obtain ⟨d, e, m⟩ := atI_ok (xs := ns.map PyData.int) i0 (by simp; omega)
      obtain ⟨g, hg, rfl⟩ := List.mem_map.mp m
      exact ⟨_, e, g, rfl, hns g hg⟩
    simp
    split
    · refine ⟨⟨by omega, by omega⟩, lc_mem (fun p => ∃ g, p = .int g ∧ (0 ≤ g ∧ g ≤ 1000000000)) (fun d hd k hk => ?_) (by simp; omega) fun ps hl hps => ?_⟩
      · obtain ⟨j, hj, rfl⟩ := mem_rangeP hd
        simp [lcStep]
        refine ⟨by omega, ?_⟩
        obtain ⟨d, e, hd⟩ := at_ _ (Int.emod_nonneg ((j : Int).fdiv 2) (by omega : kn ≠ 0)) (Int.emod_lt_of_pos _ (by omega))
        exact ⟨d, e, hk d hd⟩
      · simp at hl ⊢
        exact fin ps hl hps
    · refine ⟨⟨by omega, by omega⟩, lc_mem (fun p => ∃ g, p = .int g ∧ (0 ≤ g ∧ g ≤ 1000000000)) (fun d hd k hk => ?_) (by simp; omega) fun ps hl hps => ?_⟩
      · obtain ⟨j, hj, rfl⟩ := mem_rangeP hd
        simp [lcStep]
        refine ⟨by omega, by omega, fun y y0 y1 => ?_⟩
        obtain ⟨d, e, hd⟩ := at_ y y0 y1
        exact ⟨d, e, hk d hd⟩
      · simp at hl ⊢
        exact fin ps hl hps
end LawP
set_option Elab.async false
set_option linter.all false
namespace LawP
open PySem VL
/-! ### words: the mathematics -/
abbrev cA : Nat := 97
abbrev cS : Nat := 115
def isL (c : Nat) : Bool := c == 97 || c == 115
/-- the places of signs that are no letters -/
def badW (w : List Nat) : List Nat := (w.zipIdx.filter fun p => !isL p.1).map (·.2)
/-- the first arrival or service too many: n persons, from place k on, behind a arrivals and s services -/
def scanP (n : Nat) : Nat → Nat → Nat → List Nat → PyData
  | _, _, _, [] => .none
  | k, a, s, c :: w => if c = 97 then (if a = n then .tuple [.int k, .str "arrival"] else scanP n (k + 1) (a + 1) s w) else (if s = a then .tuple [.int k, .str "service"] else scanP n (k + 1) a (s + 1) w)
def wErrL (n : Nat) (w : List Nat) : PyData := match badW w with
  | i :: _ => .tuple [.int (i : Nat), .str "letter"]
  | [] => scanP n 0 0 0 w
def wErr (n : Nat) : PyData → PyData
  | .str z => wErrL n (sl z)
  | _ => .tuple [.none, .str "string"]
theorem badW_none {w : List Nat} (h : badW w = []) : ∀ c ∈ w, isL c = true := by
  intro c hc
  unfold badW at h
  rw [List.map_eq_nil_iff, List.filter_eq_nil_iff] at h
  obtain ⟨i, hi⟩ := List.getElem?_of_mem hc
  have := h (c, i) (by rw [List.mem_zipIdx_iff_getElem?]; exact hi)
  simpa using this
theorem badW_cons {w : List Nat} {i : Nat} {r : List Nat} (h : badW w = i :: r) : ∃ c, w[i]? = some c ∧ isL c = false ∧ ∀ j, j < i → ∀ d, w[j]? = some d → isL d = true := by
  have go : ∀ (w : List Nat) (k : Nat), ((w.zipIdx k).filter fun p => !isL p.1).map (·.2) = i :: r → ∃ c, k ≤ i ∧ w[i - k]? = some c ∧ isL c = false ∧ ∀ j, j < i - k → ∀ d, w[j]? = some d → isL d = true := by
    intro w
    induction w with
    | nil => intro k h; simp at h
    | cons c w ih =>
      intro k h
      rw [List.zipIdx_cons, List.filter_cons] at h
      by_cases hc : isL c = true
      · rw [if_neg (by simp [hc])] at h
        obtain ⟨d, h1, h2, h3, h4⟩ := ih (k + 1) h
        refine ⟨d, by omega, ?_, h3, fun j hj e he => ?_⟩
        · have : i - k = (i - (k + 1)) + 1 := by omega
          rw [this, List.getElem?_cons_succ]; exact h2
        · cases j with
          | zero => simp at he; subst he; exact hc
          | succ j => exact h4 j (by omega) e (by simpa using he)
      · rw [if_pos (by simpa using hc)] at h
        simp at h
        have : i = k := h.1.symm
        subst this
        exact ⟨c, Nat.le_refl _, by simp, by simpa using hc, fun j hj => by omega⟩
  obtain ⟨c, _, h2, h3, h4⟩ := go w 0 h
  exact ⟨c, by simpa using h2, h3, fun j hj d hd => h4 j (by simpa using hj) d hd⟩
theorem badW_first {w : List Nat} {j c : Nat} (hc : w[j]? = some c) (hn : isL c = false) (h : ∀ i, i < j → ∀ d, w[i]? = some d → isL d = true) : ∃ r, badW w = j :: r := by
  cases e : badW w with
  | nil =>
    have := badW_none e c (List.mem_of_getElem? hc)
    rw [hn] at this; cases this
  | cons i r =>
    obtain ⟨d, h1, h2, h3⟩ := badW_cons e
    rcases Nat.lt_trichotomy i j with l | l | l
    · have := h i l d h1
      rw [h2] at this; cases this
    · exact ⟨r, by rw [l]⟩
    · have := h3 j l c hc
      rw [hn] at this; cases this
theorem badW_nil {w : List Nat} (h : ∀ (i : Nat) d, w[i]? = some d → isL d = true) : badW w = [] := by
  cases e : badW w with
  | nil => rfl
  | cons i r =>
    obtain ⟨d, h1, h2, h3⟩ := badW_cons e
    have := h i d h1
    rw [h2] at this; cases this
/-- w is what is left of a history of n persons, behind a arrivals and s services -/
def goodW (n : Nat) : Nat → Nat → List Nat → Prop
  | a, s, [] => a = n ∧ s = n
  | a, s, c :: w => (c = 97 ∧ a < n ∧ goodW n (a + 1) s w) ∨ (c = 115 ∧ s < a ∧ goodW n a (s + 1) w)
/-- histories -/
def HistW (n : Nat) (w : List Nat) : Prop := goodW n 0 0 w
theorem goodW_len {n : Nat} : ∀ {w : List Nat} {a s : Nat}, goodW n a s w → w.length + a + s = 2 * n
  | [], a, s, ⟨h1, h2⟩ => by simp; omega
  | c :: w, a, s, h => by
    rcases h with ⟨_, _, h⟩ | ⟨_, _, h⟩
    · have := goodW_len h; simp; omega
    · have := goodW_len h; simp; omega
theorem HistW.len {n : Nat} {w : List Nat} (h : HistW n w) : w.length = 2 * n := by have := goodW_len h; omega
theorem goodW_let {n : Nat} : ∀ {w : List Nat} {a s : Nat}, goodW n a s w → ∀ c ∈ w, c = 97 ∨ c = 115
  | [], _, _, _, c, h => by simp at h
  | d :: w, a, s, h, c, hc => by
    rcases List.mem_cons.mp hc with rfl | hc
    · exact h.elim (fun q => .inl q.1) fun q => .inr q.1
    · exact h.elim (fun q => goodW_let q.2.2 c hc) fun q => goodW_let q.2.2 c hc
end LawP
set_option Elab.async false
set_option linter.all false
set_option maxRecDepth 100000
set_option maxHeartbeats 4000000
namespace LawP
open PySem PySem.Spec PyProof.Rows L2 VL
@[simp] theorem lit_a : Str.ofString "a" = mkS [97] := by decide +kernel
@[simp] theorem lit_s : Str.ofString "s" = mkS [115] := by decide +kernel
@[simp] theorem lit_e : Str.ofString "" = mkS [] := by decide +kernel
@[simp] theorem lit_as : Str.ofString "as" = mkS [97, 115] := by decide +kernel
def isSm (p : PyData) : Prop := ∀ z, p = .str z → z.length ≤ 100000
theorem mkS_cps (l : List Nat) : sl (mkS l) = l := sl_mkS l
theorem str_ex (z : Str) : ∃ w, z = mkS w := ⟨sl z, (mkS_sl z).symm⟩
/-! ### word_error -/
@[simp] def S_word_error : SV
  | [.py (.tuple xs), .py p], Q, _ => isSm p ∧ Q (.py (wErr xs.length p))
  | _, _, _ => False
theorem l_word_error : ∀ ds Q E, S_word_error ds Q E → t_word_error (envOf 7 ds) (fin Q E)
  | [.py (.tuple xs), .py (.str z)], Q, E, ⟨hs, q⟩ => by
    obtain ⟨w, rfl⟩ := str_ex z
    have hw : w.length ≤ 100000 := by have := hs _ rfl; simpa using this
    simp [t_word_error, -forGo, -lcGo, signsD_mkS, enumP_enc]
    refine lc_encF' (encE encC) (fun p => !isL p.1) (fun p => pN p.2) (fun i p hp k h1 h2 => ?_) (by simp; omega) ?_
    · obtain ⟨c, hc, rfl⟩ := zipIdx_at hp
      simp [lcStep, isL] at h1 h2 ⊢
      by_cases a1 : c = 97
      · subst a1; simpa using h2
      · by_cases a2 : c = 115
        · subst a2; simpa using h2
        · have b1 : ¬ 97 = c := fun e => a1 e.symm
          have b2 : ¬ 115 = c := fun e => a2 e.symm
          simp [a1, a2, b1, b2] at h1 ⊢
          exact h1
    · have eb : (List.map (fun p => pN p.2) (List.filter (fun p => !isL p.1) w.zipIdx)) = (badW w).map pN := by simp [badW]
      rw [eb]
      have q' : Q (.py (wErrL xs.length w)) := by simpa [wErr] using q
      unfold wErrL at q'
      cases hb : badW w with
      | cons i r =>
        rw [hb] at q'
        simpa [pN] using q'
      | nil =>
        rw [hb] at q'
        have hL := badW_none hb
        simp [-forGo]
        refine for_enc' (encE encC) (fun k ρ => ∃ a s x y, ρ = [.shr (.py (.tuple xs)), .shr (.py (.str (mkS w))), .shr (.py (.list [])), .shr (.py (.int (a : Nat))), .shr (.py (.int (s : Nat))), x, y] ∧ Q (.py (scanP xs.length k a s (w.drop k)))) ⟨0, 0, _, _, rfl, q'⟩ (fun k p ρ hp iv nx ct hn => ?_) (fun ρ iv => ?_)
        · obtain ⟨a, s, x, y, rfl, h⟩ := iv
          obtain ⟨c, hc, rfl⟩ := zipIdx_at hp
          have hk : k < w.length := (List.getElem?_eq_some_iff.mp hc).1
          have hd : w.drop k = c :: w.drop (k + 1) := by
            rw [List.drop_eq_getElem_cons hk]
            congr 1
            exact (List.getElem?_eq_some_iff.mp hc).2
          rw [hd] at h
          unfold scanP at h
          have hl := hL c (List.mem_of_getElem? hc)
          simp
          by_cases c1 : c = 97
          · subst c1
            rw [if_pos rfl] at h
            simp
            by_cases e : a = xs.length
            · subst e
              rw [if_pos rfl] at h
              simpa using h
            · rw [if_neg e] at h
              have e' : ¬ (a : Int) = (xs.length : Int) := by omega
              simp [e, e']
              exact (hn _ ⟨a + 1, s, _, _, rfl, h⟩).1
          · rw [if_neg c1] at h
            simp [c1]
            by_cases e : s = a
            · subst e
              rw [if_pos rfl] at h
              simpa using h
            · rw [if_neg e] at h
              have e' : ¬ (s : Int) = (a : Int) := by omega
              simp [e, e']
              exact (hn _ ⟨a, s + 1, _, _, rfl, h⟩).1
        · obtain ⟨a, s, x, y, rfl, h⟩ := iv
          rw [List.drop_eq_nil_of_le (by simp)] at h
          exact h
  | [.py (.tuple xs), .py .none], Q, E, q | [.py (.tuple xs), .py (.bool _)], Q, E, q | [.py (.tuple xs), .py (.int _)], Q, E, q | [.py (.tuple xs), .py (.list _)], Q, E, q | [.py (.tuple xs), .py (.tuple _)], Q, E, q | [.py (.tuple xs), .py (.dict _)], Q, E, q => by simpa [t_word_error, wErr] using q.2
/-! ### is_history -/
def isHist (n : Nat) (p : PyData) : Bool := match p with
  | .str z => isNn (wErr n (.str z)) && decide (z.length = 2 * n)
  | _ => false
@[simp] def S_is_history : SV
  | [.py (.tuple xs), .py p], Q, _ => isSm p ∧ xs.length ≤ 100000 ∧ Q (.py (.bool (isHist xs.length p)))
  | _, _, _ => False
theorem l_is_history : ∀ ds Q E, S_is_history ds Q E → t_is_history S_word_error (envOf 2 ds) (fin Q E)
  | [.py (.tuple xs), .py (.str z)], Q, E, ⟨hs, hx, q⟩ => by
    have hz := hs z rfl
    simp [t_is_history, isHist, -isNn] at q ⊢
    refine ⟨hs, ?_⟩
    cases hn : isNn (wErr xs.length (.str z)) with
    | false => simpa [hn, -isNn] using q
    | true =>
      simp [hn, -isNn] at q ⊢
      have e : ((z.length : Int) == 2 * (xs.length : Int)) = decide (z.length = 2 * xs.length) := by
        by_cases h : z.length = 2 * xs.length
        · rw [h]; simp
        · rw [decide_eq_false h, beq_eq_false_iff_ne]; omega
      rw [e]
      exact ⟨by omega, q⟩
  | [.py (.tuple xs), .py .none], Q, E, q | [.py (.tuple xs), .py (.bool _)], Q, E, q | [.py (.tuple xs), .py (.int _)], Q, E, q | [.py (.tuple xs), .py (.list _)], Q, E, q | [.py (.tuple xs), .py (.tuple _)], Q, E, q | [.py (.tuple xs), .py (.dict _)], Q, E, q => by
    simpa [t_is_history, isHist, wErr, isSm] using q.2.2
/-! ### what is drawn -/
def odds : List PyData := [.none, .bool true, .bool false, .int (-1), .int 0, .int 1, .int 40, .int 1000000001, .int 1000000000000000000000000000000000000000, .str "", .str "a", .str "as", .str "0", .tuple [], .list [], .dict [], .tuple [.int 0], .list [.int 0], .tuple [.bool true], .tuple [.str "a", .str "s"], .tuple [.int 0, .int 0], .str "none", .dict [(.str "a", .int 0)], .tuple [.int 1, .int 0]]
theorem odds_sw : ∀ p ∈ odds, Sw 160 2 p := by decide +kernel
@[simp] def S_law_odd (r : Addr) : SV
  | [.raw v], Q, _ => v = .ref r ∧ ∀ p ∈ odds, Q (.py p)
  | _, _, _ => False
theorem l_law_odd (r : Addr) : ∀ ds Q E, S_law_odd r ds Q E → t_law_odd (svPick r) (envOf 2 ds) (fin Q E)
  | [.raw v], Q, E, ⟨hv, q⟩ => by
    subst hv
    simp [t_law_odd, AllIn]
    intro y hy
    exact q y (by simpa [odds, or_assoc] using hy)
@[simp] def S_law_word (r : Addr) : SV
  | [.raw v, .py (.int m), .py (.int way)], Q, _ => v = .ref r ∧ 0 ≤ m ∧ m ≤ 1000 ∧ 0 ≤ way ∧ way < 5 ∧ ∀ w : List Nat, HistW m.toNat w → Q (.py (.str (mkS w)))
  | _, _, _ => False
theorem l_law_word (r : Addr) : ∀ ds Q E, S_law_word r ds Q E → t_law_word (svTake r) (envOf 7 ds) (fin Q E)
  | [.raw v, .py (.int m), .py (.int way)], Q, E, ⟨hv, m0, m1, w0, w1, q⟩ => by
    subst hv
    obtain ⟨n, rfl⟩ := Int.eq_ofNat_of_zero_le m0
    simp [t_law_word]
    refine ⟨fun k ρ => ∃ (acc : List Nat) (a s : Nat) (x : VL.Slot), ρ = [.shr (.raw (.ref r)), .shr (.py (.int (n : Nat))), .shr (.py (.int way)), .own (.py (.list (acc.map encC))), .shr (.py (.int ((a : Int) - s))), .shr (.py (.int ((n : Int) - a))), x] ∧ s ≤ a ∧ a ≤ n ∧ acc.length = a + s ∧ k = 2 * n - a - s ∧ (∀ w, goodW n a s w → HistW n (acc ++ w)),
      ⟨_, [], 0, 0, _, by simp; rfl, by omega, by omega, rfl, rfl, fun w h => h⟩, ?_⟩
    rintro k ρ ⟨acc, a, s, x, rfl, h1, h2, h3, h4, h5⟩
    have hS : s < a → ∃ m', m' < k ∧ ∃ (acc' : List Nat) (a' s' : Nat), (acc.map encC ++ [PyData.str (mkS [115])] = acc'.map encC ∧ (a : Int) - s - 1 = (a' : Int) - s' ∧ (a : Int) = a') ∧ s' ≤ a' ∧ a' ≤ n ∧ acc'.length = a' + s' ∧ m' = 2 * n - a' - s' ∧ ∀ w, goodW n a' s' w → HistW n (acc' ++ w) := fun h => by
      refine ⟨_, ?_, acc ++ [115], a, s + 1, ⟨by simp, by omega, rfl⟩, by omega, h2, by simp; omega, rfl, fun w hw => ?_⟩
      · omega
      · rw [List.append_assoc]
        exact h5 (115 :: w) (.inr ⟨rfl, h, hw⟩)
    have hA : a < n → ∃ m', m' < k ∧ ∃ (acc' : List Nat) (a' s' : Nat), (acc.map encC ++ [PyData.str (mkS [97])] = acc'.map encC ∧ (a : Int) - s + 1 = (a' : Int) - s' ∧ (n : Int) - a - 1 = (n : Int) - a') ∧ s' ≤ a' ∧ a' ≤ n ∧ acc'.length = a' + s' ∧ m' = 2 * n - a' - s' ∧ ∀ w, goodW n a' s' w → HistW n (acc' ++ w) := fun h => by
      refine ⟨_, ?_, acc ++ [97], a + 1, s, ⟨by simp, by omega, by omega⟩, by omega, by omega, by simp; omega, rfl, fun w hw => ?_⟩
      · omega
      · rw [List.append_assoc]
        exact h5 (97 :: w) (.inl ⟨rfl, h, hw⟩)
    simp
    split
    · rename_i c
      intro y y0 y1 z z0 z1
      obtain ⟨d, hd⟩ : ∃ d : Int, atI [PyData.int y, PyData.int 1, PyData.int 0, PyData.int (if 0 < z then 1 else 0), PyData.int (if 2 < (a : Int) - s then 1 else 0)] way = some (.int d) := by
        rcases (by omega : way = 0 ∨ way = 1 ∨ way = 2 ∨ way = 3 ∨ way = 4) with rfl | rfl | rfl | rfl | rfl
        · exact ⟨y, rfl⟩
        · exact ⟨1, rfl⟩
        · exact ⟨0, rfl⟩
        · exact ⟨_, rfl⟩
        · exact ⟨_, rfl⟩
      refine ⟨_, hd, ?_⟩
      by_cases c1 : (n : Int) - a = 0
      · rw [if_pos c1]
        refine ⟨by omega, ?_⟩
        have := hS (by omega)
        simpa using this
      · rw [if_neg c1]
        have hA' := hA (by omega)
        by_cases c2 : s < a
        · rw [if_pos c2]
          have hS' := hS c2
          simp
          split
          · exact ⟨by omega, by simpa using hS'⟩
          · exact ⟨by omega, by simpa using hA'⟩
        · rw [if_neg c2]
          exact ⟨by omega, by simpa using hA'⟩
    · rename_i c
      have e1 : a = n := by omega
      have e2 : s = n := by omega
      subst e1 e2
      have hw : HistW s acc := by have := h5 [] ⟨rfl, rfl⟩; simpa using this
      have h := hw.len
      refine ⟨_, allS_signs acc, ?_, ?_⟩
      · have := sum_signs acc
        simp at this ⊢
        omega
      · rw [join_signs]
        exact q acc (by simpa using hw)
/-! ### the law's own look at a word -/
@[simp] def S_law_fault : SV
  | [.py (.tuple xs), .py p], Q, _ => isSm p ∧ Q (.py (wErr xs.length p))
  | _, _, _ => False
theorem scan_counts (n : Nat) (w : List Nat) (hL : ∀ c ∈ w, isL c = true) (k : Nat) (hk : k ≤ w.length) : (w.take k).count 97 + (w.take k).count 115 = k := by
  induction k with
  | zero => simp
  | succ k ih =>
    have hk' : k < w.length := by omega
    rw [List.take_succ_eq_append_getElem hk', List.count_append, List.count_append]
    have := hL w[k] (List.getElem_mem hk')
    have ih := ih (by omega)
    simp [isL] at this
    rcases this with e | e <;> rw [e] <;> simp <;> omega
theorem l_law_fault : ∀ ds Q E, S_law_fault ds Q E → t_law_fault (envOf 4 ds) (fin Q E)
  | [.py (.tuple xs), .py (.str z)], Q, E, ⟨hs, q⟩ => by
    obtain ⟨w, rfl⟩ := str_ex z
    have hw : w.length ≤ 100000 := by have := hs _ rfl; simpa using this
    simp [t_law_fault, -forGo]
    have q' : Q (.py (wErrL xs.length w)) := by simpa [wErr] using q
    unfold wErrL at q'
    refine ⟨by omega, by omega, ?_⟩
    refine for_enc (encR 0) (fun k ρ => ∃ x, ρ = [.shr (.py (.tuple xs)), .shr (.py (.str (mkS w))), x, .un] ∧ ∀ j, j < k → ∀ c, w[j]? = some c → isL c = true) ⟨_, rfl, fun j hj => by omega⟩ (fun k j ρ hj iv nx ct hn => ?_) (fun ρ iv => ?_)
    · obtain ⟨x, rfl, h⟩ := iv
      obtain ⟨rfl, hj⟩ := range_get hj
      obtain ⟨c, hc⟩ : ∃ c, w[j]? = some c := ⟨w[j], List.getElem?_eq_getElem hj⟩
      have ac : atI w (j : Int) = some c := atI_nat hc
      simp [ac]
      refine ⟨by omega, ?_⟩
      split
      · rename_i c1
        have hl : isL c = false := by simp [isL]; exact ⟨fun e => c1.1 e.symm, fun e => c1.2 e.symm⟩
        obtain ⟨r, hr⟩ := badW_first hc hl h
        rw [hr] at q'
        simpa using q'
      · rename_i c1
        refine (hn _ ⟨_, rfl, fun i hi d hd => ?_⟩).1
        by_cases e : i = j
        · subst e
          rw [hc] at hd; cases hd
          simp [isL]
          by_cases e1 : c = 97
          · exact .inl e1
          · exact .inr (Classical.byContradiction fun e2 => c1 ⟨fun z => e1 z.symm, fun z => e2 z.symm⟩)
        · exact h i (by omega) d hd
    · obtain ⟨x, rfl, h⟩ := iv
      have hb : badW w = [] := badW_nil fun i d hd => h i (by have := (List.getElem?_eq_some_iff.mp hd).1; simpa using this) d hd
      rw [hb] at q'
      simp [-forGo]
      refine ⟨by omega, by omega, ?_⟩
      refine for_enc (encR 0) (fun k ρ => ∃ x y, ρ = [.shr (.py (.tuple xs)), .shr (.py (.str (mkS w))), x, y] ∧ Q (.py (scanP xs.length k ((w.take k).count 97) ((w.take k).count 115) (w.drop k)))) ⟨_, _, rfl, by simpa using q'⟩ (fun k j ρ hj iv nx ct hn => ?_) (fun ρ iv => ?_)
      · obtain ⟨x, y, rfl, hq⟩ := iv
        obtain ⟨rfl, hj⟩ := range_get hj
        obtain ⟨c, hc⟩ : ∃ c, w[j]? = some c := ⟨w[j], List.getElem?_eq_getElem hj⟩
        have ac : atI w (j : Int) = some c := atI_nat hc
        have hl : isL c = true := h j (by simpa using hj) c hc
        have hd : w.drop j = c :: w.drop (j + 1) := by
          rw [List.drop_eq_getElem_cons hj]
          congr 1
          exact (List.getElem?_eq_some_iff.mp hc).2
        have ht : w.take (j + 1) = w.take j ++ [c] := take_succ_get hc
        have ec : cutL w none (some (j : Int)) = w.take j := by rw [cutL_take w (by omega)]; simp
        rw [hd] at hq
        unfold scanP at hq
        simp [ac, ec]
        refine ⟨by omega, ?_⟩
        have nxt : ∀ x y, Q (.py (scanP xs.length (j + 1) ((w.take (j + 1)).count 97) ((w.take (j + 1)).count 115) (w.drop (j + 1)))) → nx [.shr (.py (.tuple xs)), .shr (.py (.str (mkS w))), x, y] := fun x y hh => (hn _ ⟨_, _, rfl, hh⟩).1
        rw [ht] at nxt
        simp [isL] at hl
        rcases hl with e | e
        · subst e
          simp at hq nxt ⊢
          split
          · rename_i c1
            rw [if_pos (by omega)] at hq
            exact hq
          · rename_i c1
            rw [if_neg (by omega)] at hq
            exact ⟨by omega, nxt _ _ hq⟩
        · subst e
          simp at hq nxt ⊢
          split
          · rename_i c1
            rw [if_pos (by omega)] at hq
            exact ⟨by omega, hq⟩
          · rename_i c1
            rw [if_neg (by omega)] at hq
            exact ⟨by omega, nxt _ _ hq⟩
      · obtain ⟨x, y, rfl, hq⟩ := iv
        have : w.drop (List.range w.length).length = [] := List.drop_eq_nil_of_le (by simp)
        rw [this] at hq
        exact hq
  | [.py (.tuple xs), .py .none], Q, E, q | [.py (.tuple xs), .py (.bool _)], Q, E, q | [.py (.tuple xs), .py (.int _)], Q, E, q | [.py (.tuple xs), .py (.list _)], Q, E, q | [.py (.tuple xs), .py (.tuple _)], Q, E, q | [.py (.tuple xs), .py (.dict _)], Q, E, q => by simpa [t_law_fault, wErr] using q.2
/-! ### a word changed -/
@[simp] def S_law_twisted (r : Addr) : SV
  | [.raw v, .py (.str z)], Q, _ => v = .ref r ∧ z.length ≤ 50000 ∧ ∀ z' : Str, z'.length ≤ z.length + 10 → (∀ c ∈ sl z', c ∈ sl z ∨ c < 128) → Q (.py (.str z'))
  | _, _, _ => False
theorem l_law_twisted (r : Addr) : ∀ ds Q E, S_law_twisted r ds Q E → t_law_twisted (svTake r) (svPick r) (envOf 5 ds) (fin Q E)
  | [.raw v, .py (.str z)], Q, E, ⟨hv, hz, q⟩ => by
    subst hv
    obtain ⟨w, rfl⟩ := str_ex z
    simp at hz q
    simp [t_law_twisted]
    refine ⟨by omega, by omega, fun x x0 x1 => AllIn.of (S := fun y => ∃ g : List Nat, y = .str (mkS g) ∧ g.length ≤ 2 ∧ ∀ c ∈ g, c < 128) ?_ ?_⟩
    · have e1 : Str.ofString "x" = mkS [120] := by decide +kernel
      have e2 : Str.ofString "A" = mkS [65] := by decide +kernel
      have e3 : Str.ofString " " = mkS [32] := by decide +kernel
      have e4 : Str.ofString "\n" = mkS [10] := by decide +kernel
      have e5 : Str.ofString "ss" = mkS [115, 115] := by decide +kernel
      have e6 : Str.ofString "aa" = mkS [97, 97] := by decide +kernel
      simp [e1, e2, e3, e4, e5, e6]
    · rintro y ⟨g, rfl, hg, hc⟩
      simp
      have l1 := cutL_len w none (some x)
      have l2 := cutL_len w (some x) none
      have l3 := cutL_len w (some (x + 1)) none
      have l12 : (cutL w none (some x)).length + (cutL w (some x) none).length = w.length := by rw [cutL_take w x0, cutL_drop w x0, List.length_take, List.length_drop]; omega
      have l13 : (cutL w none (some x)).length + (cutL w (some (x + 1)) none).length ≤ w.length := by rw [cutL_take w x0, cutL_drop w (by omega), List.length_take, List.length_drop]; omega
      have m : ∀ lo hi, ∀ c ∈ cutL w lo hi, c ∈ w := fun lo hi c h => cutL_mem h
      repeat (refine ⟨by omega, ?_⟩)
      refine AllIn.of (S := fun y => ∃ u : List Nat, y = .str (mkS u) ∧ u.length ≤ w.length + 10 ∧ ∀ c ∈ u, c ∈ w ∨ c < 128) ?_ ?_
      · intro y hy
        simp only [List.mem_cons, List.not_mem_nil, or_false] at hy
        have P3 : ∀ (a b c : List Nat), (∀ d ∈ a, d ∈ w ∨ d < 128) → (∀ d ∈ b, d ∈ w ∨ d < 128) → (∀ d ∈ c, d ∈ w ∨ d < 128) → ∀ d ∈ a ++ (b ++ c), d ∈ w ∨ d < 128 := fun a b c h1 h2 h3 d hd => by
          rcases List.mem_append.mp hd with h | h
          · exact h1 d h
          · rcases List.mem_append.mp h with h | h
            · exact h2 d h
            · exact h3 d h
        have P2 : ∀ (a b : List Nat), (∀ d ∈ a, d ∈ w ∨ d < 128) → (∀ d ∈ b, d ∈ w ∨ d < 128) → ∀ d ∈ a ++ b, d ∈ w ∨ d < 128 := fun a b h1 h2 d hd => by
          rcases List.mem_append.mp hd with h | h
          · exact h1 d h
          · exact h2 d h
        have mc : ∀ lo hi, ∀ d ∈ cutL w lo hi, d ∈ w ∨ d < 128 := fun lo hi d h => .inl (m lo hi d h)
        have mg : ∀ d ∈ g, d ∈ w ∨ d < 128 := fun d h => .inr (hc d h)
        have mw : ∀ d ∈ w, d ∈ w ∨ d < 128 := fun d h => .inl h
        rcases hy with rfl | rfl | rfl | rfl | rfl | rfl | rfl
        · exact ⟨_, rfl, by simp; omega, P3 _ _ _ (mc _ _) mg (mc _ _)⟩
        · exact ⟨_, rfl, by simp; omega, P3 _ _ _ (mc _ _) mg (mc _ _)⟩
        · exact ⟨_, rfl, by simp; omega, P2 _ _ (mc _ _) (mc _ _)⟩
        · exact ⟨_, rfl, by simp, fun d h => .inl (List.mem_reverse.mp h)⟩
        · exact ⟨_, rfl, by omega, mc _ _⟩
        · exact ⟨_, rfl, by simp; omega, P2 _ _ mw mg⟩
        · exact ⟨_, rfl, by simp; omega, P2 _ _ (mc _ _) (mc _ _)⟩
      · rintro y ⟨u, rfl, hu, hm⟩
        exact q _ (by simpa using hu) (by simpa using hm)
end LawP
set_option Elab.async false
set_option linter.all false
set_option maxRecDepth 100000
set_option maxHeartbeats 4000000
namespace LawP
open PySem PySem.Spec PyProof.Rows L2 VL
/-! ### sizes of words and what is told of them -/
theorem up97 : Unicode.upperOf 97 = [65] := by decide +kernel
theorem up115 : Unicode.upperOf 115 = [83] := by decide +kernel
theorem sl_upper (w : List Nat) : sl (Txt.upper (mkS w)) = (w.map Unicode.upperOf).flatten := by
  unfold Txt.upper placed sl
  simp
  congr 1
  apply List.ext_getElem?
  intro i
  simp [List.getElem?_mapIdx]
  cases w[i]? <;> rfl
theorem upper_word {w : List Nat} (h : ∀ c ∈ w, c = 97 ∨ c = 115) : ∃ u : List Nat, Txt.upper (mkS w) = mkS u ∧ u.length = w.length ∧ ∀ c ∈ u, c < 128 := by
  refine ⟨(w.map Unicode.upperOf).flatten, by rw [← sl_upper, mkS_sl], ?_, ?_⟩
  · induction w with
    | nil => rfl
    | cons c w ih =>
      have ih := ih fun d hd => h d (List.mem_cons_of_mem _ hd)
      rw [List.map_cons, List.flatten_cons, List.length_append, ih]
      rcases h c List.mem_cons_self with rfl | rfl
      · rw [up97]; simp; omega
      · rw [up115]; simp; omega
  · induction w with
    | nil => intro c hc; simp at hc
    | cons c w ih =>
      have ih := ih fun d hd => h d (List.mem_cons_of_mem _ hd)
      intro d hd
      rw [List.map_cons, List.flatten_cons, List.mem_append] at hd
      rcases hd with hd | hd
      · rcases h c List.mem_cons_self with rfl | rfl
        · rw [up97] at hd; simp at hd; omega
        · rw [up115] at hd; simp at hd; omega
      · exact ih d hd
theorem sw_mkS {u : List Nat} {n : Nat} (h : u.length ≤ n) (hc : ∀ c ∈ u, c < 1114112) : Sw n 0 (.str (mkS u)) := by
  refine ⟨by simp only [PyData.showable], ?_, ?_, by simp only [PyData.depth]; omega⟩
  · simp only [PyData.leavesShort]
    rw [List.all_eq_true]
    intro c hm
    have := hc c (by simpa using hm)
    exact decide_eq_true (by omega)
  · simp only [PyData.weight]
    show (mkS u).length ≤ n
    simpa using h
theorem scanP_sw (n : Nat) : ∀ (w : List Nat) (k a s : Nat), k + w.length ≤ 100000 → Sw 200 3 (scanP n k a s w)
  | [], _, _, _, _ => by unfold scanP; decide +kernel
  | c :: w, k, a, s, h => by
    have i40 : Sw 60 2 (.int (k : Nat)) := (Sw.int (by simp at h; omega)).mono (by omega) (by omega)
    have t1 : Sw 60 2 (.str "arrival") := by decide +kernel
    have t2 : Sw 60 2 (.str "service") := by decide +kernel
    unfold scanP
    split
    · split
      · exact (Sw.t2 i40 t1).mono (by omega) (by omega)
      · exact scanP_sw n w _ _ _ (by simp at h; omega)
    · split
      · exact (Sw.t2 i40 t2).mono (by omega) (by omega)
      · exact scanP_sw n w _ _ _ (by simp at h; omega)
theorem wErr_sw (n : Nat) {p : PyData} (h : isSm p) : Sw 200 3 (wErr n p) := by
  have t0 : Sw 200 3 (.tuple [.none, .str "string"]) := by decide +kernel
  cases p <;> try exact t0
  rename_i z
  have hz := h z rfl
  show Sw 200 3 (wErrL n (sl z))
  unfold wErrL
  cases e : badW (sl z) with
  | nil =>
    show Sw 200 3 (scanP n 0 0 0 (sl z))
    exact scanP_sw n (sl z) _ _ _ (by rw [slen]; omega)
  | cons i r =>
    obtain ⟨c, hc, _, _⟩ := badW_cons e
    have := (List.getElem?_eq_some_iff.mp hc).1
    rw [slen] at this
    have t1 : Sw 60 2 (.str "letter") := by decide +kernel
    have i60 : Sw 60 2 (.int (i : Nat)) := (Sw.int (by omega)).mono (by omega) (by omega)
    show Sw 200 3 (.tuple [.int (i : Nat), .str "letter"])
    exact (Sw.t2 i60 t1).mono (by omega) (by omega)
/-- a value that the laws try -/
structure OkV (p : PyData) : Prop where
  sm : isSm p
  sw : Sw 100000 30 p
theorem OkV.txt {u : List Nat} (h : u.length ≤ 90000) (hc : ∀ c ∈ u, c < 128) : OkV (.str (mkS u)) :=
  ⟨fun z e => by simp at e; subst e; simp; omega, (sw_mkS (n := 100000) (by omega) fun c h => by have := hc c h; omega).mono (by omega) (by omega)⟩
theorem OkV.odd {p : PyData} (h : p ∈ odds) : OkV p := by
  refine ⟨fun z e => ?_, (odds_sw p h).mono (by omega) (by omega)⟩
  subst e
  have : ∀ p ∈ odds, (match p with | .str z => decide (z.length ≤ 100000) | _ => true) = true := by decide +kernel
  simpa using this _ h
theorem HistW.ok {n : Nat} {w : List Nat} (h : HistW n w) : ∀ c ∈ w, c < 128 := fun c hc => by rcases goodW_let h c hc with rfl | rfl <;> omega
end LawP
set_option Elab.async false
set_option linter.all false
set_option maxRecDepth 100000
set_option maxHeartbeats 4000000
namespace LawP
open PySem PySem.Spec PyProof.Rows L2 VL
/-! ### whole numbers within bounds -/
def isInt (p : PyData) (lo hi : Int) : Bool := match p with
  | .int i => decide (lo ≤ i) && decide (i ≤ hi)
  | _ => false
@[simp] def S_is_integer : SV
  | [.py p, .py (.int lo), .py (.int hi)], Q, _ => Q (.py (.bool (isInt p lo hi)))
  | _, _, _ => False
theorem l_is_integer : ∀ ds Q E, S_is_integer ds Q E → t_is_integer (envOf 3 ds) (fin Q E)
  | [.py p, .py (.int lo), .py (.int hi)], Q, E, q => by
    cases p <;> simp [t_is_integer, isInt] at q ⊢ <;> try assumption
    rename_i i
    by_cases h : lo ≤ i <;> simp [h] at q ⊢ <;> exact q
/-! ### counts and their words -/
/-- the first wrong place, b the count before -/
def badC : Int → Nat → List PyData → Option Nat
  | _, _, [] => none
  | b, k, .int c :: ps => if b ≤ c ∧ c ≤ k then badC c (k + 1) ps else some k
  | _, k, _ :: _ => some k
def wordP : Int → Nat → List PyData → List Nat
  | b, k, [] => List.replicate ((k : Int) - b).toNat 115
  | b, k, .int c :: ps => List.replicate (c - b).toNat 115 ++ 97 :: wordP c (k + 1) ps
  | _, _, _ :: _ => []
theorem badC_cons {b : Int} {k : Nat} {p : PyData} {ps : List PyData} : badC b k (p :: ps) = if isInt p b k = true then (match p with | .int c => badC c (k + 1) ps | _ => none) else some k := by
  cases p <;> simp [badC, isInt]
theorem isInt_ex {p : PyData} {lo hi : Int} (h : isInt p lo hi = true) : ∃ c, p = .int c ∧ lo ≤ c ∧ c ≤ hi := by
  cases p <;> simp [isInt] at h
  exact ⟨_, rfl, h.1, h.2⟩
theorem drop_atE {α : Type} {xs : List α} {i : Nat} {x : α} (h : xs[i]? = some x) : xs.drop i = x :: xs.drop (i + 1) := by
  obtain ⟨hi, rfl⟩ := List.getElem?_eq_some_iff.mp h
  exact List.drop_eq_getElem_cons hi
theorem sum_le {ls : List (List Nat)} {m : Nat} (h : ∀ l ∈ ls, l.length ≤ m) : (ls.map List.length).sum ≤ m * ls.length := by
  induction ls with
  | nil => simp
  | cons l ls ih =>
    have := ih fun l hl => h l (List.mem_cons_of_mem _ hl)
    have := h l List.mem_cons_self
    simp only [List.map_cons, List.sum_cons, List.length_cons, Nat.mul_add]
    omega
@[simp] def S_word_with : SV
  | [.py (.tuple ps)], Q, _ => ps.length ≤ 40 ∧ badC 0 0 ps = none ∧ Q (.py (.str (mkS (wordP 0 0 ps))))
  | _, _, _ => False
theorem l_word_with : ∀ ds Q E, S_word_with ds Q E → t_word_with (envOf 4 ds) (fin Q E)
  | [.py (.tuple ps)], Q, E, ⟨hl, hb, q⟩ => by
    simp [t_word_with, -forGo]
    refine for_inv (fun i ρ => ∃ (ls : List (List Nat)) (sv : List PyData) (bf : Int) (x : VL.Slot), ρ = [.shr (.py (.tuple ps)), .own (.py (.list sv)), .shr (.py (.int bf)), x] ∧ sv = ls.map (fun l => PyData.str (mkS l)) ∧ ls.length = i ∧ badC bf i (ps.drop i) = none ∧ wordP 0 0 ps = ls.flatten ++ wordP bf i (ps.drop i) ∧ 0 ≤ bf ∧ bf ≤ i ∧ ∀ l ∈ ls, l.length ≤ 42) (fun i p ρ hp iv nx ct hn => ?_) (fun ρ iv => ?_) ⟨[], [], 0, _, rfl, rfl, rfl, by simpa using hb, by simp, by omega, by omega, by simp⟩
    · obtain ⟨ls, sv, bf, x, rfl, es, el, h1, h2, h3, h4, h5⟩ := iv
      have hi : i < ps.length := (List.getElem?_eq_some_iff.mp hp).1
      rw [drop_atE hp] at h1 h2
      rw [badC_cons] at h1
      by_cases c : isInt p bf i = true
      · obtain ⟨k, rfl, k1, k2⟩ := isInt_ex c
        rw [if_pos c] at h1
        have sl : sv.length = i := by rw [es]; simpa using el
        simp
        refine ⟨by omega, by omega, by omega, (hn _ ⟨ls ++ [List.replicate (k - bf).toNat 115 ++ [97]], _, k, _, rfl, ?_, by simp [el], h1, ?_, by omega, by omega, ?_⟩).1⟩
        · rw [es]; simp
        · rw [h2]; simp [wordP]
        · intro l hl'
          rcases List.mem_append.mp hl' with h | h
          · exact h5 l h
          · rw [List.mem_singleton.mp h]; simp; omega
      · rw [if_neg c] at h1
        cases h1
    · obtain ⟨ls, sv, bf, x, rfl, es, el, h1, h2, h3, h4, h5⟩ := iv
      rw [List.drop_length] at h2
      have hs := sum_le h5
      have ej := join0 ls
      simp [es, allS_mk]
      have e0 : ((fun x : Str => x.length) ∘ mkS) = (List.length : List Nat → Nat) := by funext l; simp
      have el2 : (Txt.join (mkS []) (List.map mkS ls)).length = (ls.map List.length).sum := by rw [ej]; simp [List.length_flatten]
      rw [e0, el2, ej]
      refine ⟨by omega, ⟨by omega, by omega, by omega⟩, by omega, ?_⟩
      rw [h2] at q
      simpa [wordP] using q
@[simp] def wfQ (ps : List PyData) (Q : D → Prop) (E : Er → Prop) : Prop := if 1 ≤ ps.length ∧ ps.length ≤ 40 then (match badC 0 0 ps with | none => Q (.py (.str (mkS (wordP 0 0 ps)))) | some k => E ⟨"BadCount", [("index", .int (k : Nat))]⟩) else E ⟨"TooLarge", [("limit", .int 40)]⟩
@[simp] def S_word_from : SV
  | [.py (.tuple ps)], Q, E => wfQ ps Q E
  | _, _, _ => False
theorem l_word_from : ∀ ds Q E, S_word_from ds Q E → t_word_from S_is_integer S_word_with (envOf 3 ds) (fin Q E)
  | [.py (.tuple ps)], Q, E, q => by
    simp [t_word_from, -forGo]
    simp at q
    by_cases c1 : 1 ≤ ps.length
    · by_cases c2 : ps.length ≤ 40
      · have d1 : (1 : Int) ≤ ps.length := by omega
        have d2 : (ps.length : Int) ≤ 40 := by omega
        rw [if_pos ⟨c1, c2⟩] at q
        rw [if_pos d1, if_pos d2]
        refine for_inv (fun i ρ => ∃ (bf : Int) (x y : VL.Slot), ρ = [.shr (.py (.tuple ps)), x, y] ∧ badC 0 0 ps = badC bf i (ps.drop i) ∧ 0 ≤ bf ∧ bf ≤ i ∧ (i = 0 → bf = 0) ∧ ∀ j, i = j + 1 → ps[j]? = some (.int bf)) (fun i p ρ hp iv nx ct hn => ?_) (fun ρ iv => ?_) ⟨0, _, _, rfl, by simp, by omega, by omega, by simp, by simp⟩
        · obtain ⟨bf, x, y, rfl, h1, h2, h3, h4, h5⟩ := iv
          obtain ⟨p, hp2, rfl⟩ := enumP_getD (f := id) (by simpa using hp)
          clear hp
          have hp := hp2
          have hi : i < ps.length := (List.getElem?_eq_some_iff.mp hp).1
          rw [drop_atE hp, badC_cons] at h1
          have fin1 : ∀ x y, isInt p bf i = true → nx [.shr (.py (.tuple ps)), x, y] := fun x y c => by
            obtain ⟨k, rfl, k1, k2⟩ := isInt_ex c
            rw [if_pos c] at h1
            exact (hn _ ⟨k, _, _, rfl, h1, by omega, by omega, by omega, fun j e => by
              obtain rfl : i = j := by omega
              exact hp⟩).1
          have fin2 : ¬ isInt p bf i = true → E ⟨"BadCount", [("index", .int (i : Nat))]⟩ := fun c => by
            rw [if_neg c] at h1
            rw [h1] at q
            exact q
          by_cases i0 : i = 0
          · subst i0
            obtain rfl := h4 rfl
            simp
            split
            · rename_i c
              exact fin1 _ _ c
            · rename_i c
              exact fin2 c
          · obtain ⟨j, rfl⟩ : ∃ j, i = j + 1 := ⟨i - 1, by omega⟩
            have h5 := h5 j rfl
            simp
            refine ⟨_, atI_nat h5, ?_⟩
            simp
            split
            · rename_i c
              exact fin1 _ _ (by simpa using c)
            · rename_i c
              have := fin2 (by simpa using c)
              simpa using this
        · obtain ⟨bf, x, y, rfl, h1, h2, h3, h4, h5⟩ := iv
          simp [enumP_len] at h1 ⊢
          simp only [badC] at h1
          rw [h1] at q
          exact ⟨c2, h1, q⟩
      · rw [if_neg (by omega)] at q
        have d1 : (1 : Int) ≤ ps.length := by omega
        have d2 : ¬ (ps.length : Int) ≤ 40 := by omega
        rw [if_pos d1, if_neg d2]
        exact q
    · rw [if_neg (by omega)] at q
      have d1 : ¬ (1 : Int) ≤ ps.length := by omega
      rw [if_neg d1]
      exact q
end LawP
set_option Elab.async false
set_option linter.all false
set_option maxRecDepth 100000
set_option maxHeartbeats 4000000
namespace LawP
open PySem PySem.Spec PyProof.Rows L2 VL
def t_c_row (S_law_wind : SV) : VS :=
  (sSeq (sSet 2 (vBin gIx (vLst (vCons (vC (.py (.int 1))) (vCons (vC (.py (.int 2))) (vCons (vC (.py (.int 3))) (vCons (vC (.py (.int 5))) (vCons (vBin gPow (vC (.py (.int 10))) (vC (.py (.int 9)))) vNil)))))) (vCall S_law_wind (vCons (vVar 0) (vCons (vC (.py (.int 5))) vNil)))))
  (sRet (vCal gTuple (vCons (vLc [3] (iR1 (vCons (vBin gAdd (vC (.py (.int 1))) (vCall S_law_wind (vCons (vVar 0) (vCons (vVar 1) vNil)))) vNil)) (tgName 3) wYes (vCall S_law_wind (vCons (vVar 0) (vCons (vVar 2) vNil)))) vNil))))
def t_c_odd (S_law_wind : SV) : VS :=
  (sSeq (sSet 1 (vLst (vCons (vC (.py .none)) (vCons (vC (.py (.bool true))) (vCons (vC (.py (.bool false))) (vCons (vUn gNeg (vC (.py (.int 1)))) (vCons (vC (.py (.int 0))) (vCons (vC (.py (.int 1))) (vCons (vC (.py (.int 2))) (vCons (vC (.py (.int 40))) (vCons (vBin gPow (vC (.py (.int 10))) (vC (.py (.int 39)))) (vCons (vC (.py (.str ""))) (vCons (vC (.py (.str "a"))) (vCons (vC (.py (.str "as"))) (vCons (vC (.py (.str "x"))) (vCons (vTup vNil) (vCons (vLst vNil) (vCons vD0 (vCons (vTup (vCons (vC (.py (.int 0))) vNil)) (vCons (vLst (vCons (vC (.py (.int 0))) vNil)) vNil))))))))))))))))))))
  (sRet (vBin gIx (vBin gAdd (vBor 1) (vLst (vCons (vTup (vCons (vC (.py (.int 0))) (vCons (vC (.py (.int 1))) vNil))) (vCons (vTup (vCons (vTup vNil) vNil)) vNil)))) (vCall S_law_wind (vCons (vVar 0) (vCons (vC (.py (.int 20))) vNil))))))
def t_check_times (S_is_integer : SV) : VS :=
  (sSeq (sIf (wOr (wNot (vTst (vCal gIsi (vCons (vBor 1) (vCons (vC (.raw (.ty "tuple"))) vNil))))) (vTst (vBin gNe (vCal gLen (vCons (vBor 1) vNil)) (vCal gLen (vCons (vBor 0) vNil)))))
  (sRaise1 "BadTimes" "value" (vVar 1))
  sNext)
  (sIf (wOr (wNot (vTst (vCal gAll (vCons (vLc [2] (iS (vBor 1)) (tgName 2) wYes (vCall S_is_integer (vCons (vVar 2) (vCons (vC (.py (.int 0))) (vCons (vC (.py (.int 1000000000))) vNil))))) vNil)))) (vTst (vBin gNe (vCal gList (vCons (vBor 1) vNil)) (vCal gSorted (vCons (vBor 1) vNil)))))
  (sRaise1 "BadTimes" "value" (vVar 1))
  sNext))
def t_c_is_int : VS :=
  (sRet (vAnd (vCal gIsi (vCons (vBor 0) (vCons (vC (.raw (.ty "int"))) vNil))) (vAnd (vNot (vCal gIsi (vCons (vBor 0) (vCons (vC (.raw (.ty "bool"))) vNil)))) (vChain gLe gLe (vBor 1) (vBor 0) (vBor 2)))))
def t_c_is_times (S_c_is_int : SV) : VS :=
  (sSeq (sIf (wOr (wNot (vTst (vCal gIsi (vCons (vBor 1) (vCons (vC (.raw (.ty "tuple"))) vNil))))) (vTst (vBin gNe (vCal gLen (vCons (vBor 1) vNil)) (vCal gLen (vCons (vBor 0) vNil)))))
  (sRet (vC (.py (.bool false))))
  sNext)
  (sSeq (sIf (vTst (vBin gNe (vLc [2] (iS (vBor 1)) (tgName 2) (wNot (vTst (vCall S_c_is_int (vCons (vVar 2) (vCons (vC (.py (.int 0))) (vCons (vBin gPow (vC (.py (.int 10))) (vC (.py (.int 9)))) vNil)))))) (vVar 2)) (vLst vNil)))
  (sRet (vC (.py (.bool false))))
  sNext)
  (sRet (vBin gEq (vLc [3] (iR2 (vCons (vC (.py (.int 1))) (vCons (vCal gLen (vCons (vBor 1) vNil)) vNil))) (tgName 3) (vTst (vBin gGt (vBin gIx (vBor 1) (vBin gSub (vBor 3) (vC (.py (.int 1))))) (vBin gIx (vBor 1) (vBor 3)))) (vVar 3)) (vLst vNil)))))
def t_c_mates : VS :=
  (sSeq (sSetN 1 (vLst vNil))
  (sSeq (sFor (iR1 (vCons (vCal gLen (vCons (vBor 0) vNil)) vNil)) (tgName 2)
  (sSeq (sSet 3 (vLc [4] (iR1 (vCons (vBor 2) vNil)) (tgName 4) (vTst (vBin gEq (vBin gIx (vBor 0) (vBor 4)) (vBin gIx (vBor 0) (vBor 2)))) (vVar 4)))
  (sMut 1 gApp (vCons (vIf (vTst (vBin gNe (vBor 3) (vLst vNil))) (vBin gIx (vBor 3) (vUn gNeg (vC (.py (.int 1))))) (vC (.py .none))) vNil))))
  (sFrz 1 (sRet (vVar 1)))))
def t_c_come : VS :=
  (sSeq (sIf (vTst (vBin (gIn true) (vBor 2) (vBor 0)))
  (sRet (vBin gAdd (vBor 0) (vLst (vCons (vVar 1) vNil))))
  sNext)
  (sSeq (sSet 3 (vMth isSq gIndex (vBor 0) (vCons (vBor 2) vNil)))
  (sRet (vBin gAdd (vBin gAdd (vSl gSl (vBor 0) oNo (oAt (vBin gAdd (vBor 3) (vC (.py (.int 1)))))) (vLst (vCons (vVar 1) vNil))) (vSl gSl (vBor 0) (oAt (vBin gAdd (vBor 3) (vC (.py (.int 1))))) oNo)))))
end LawP
set_option Elab.async false
set_option linter.all false
set_option maxRecDepth 100000
set_option maxHeartbeats 4000000
namespace VL
open PySem PySem.Spec PyProof.Rows L2
/-! ### the sizes of lists of data -/
structure SwL (w d : Nat) (xs : List PyData) : Prop where
  sh : PyData.showableAll xs = true
  ls : PyData.leavesShortAll 60 xs = true
  wt : PyData.weightAll xs ≤ w
  dp : PyData.depthAll xs ≤ d
theorem SwL.mono {w d w' d' : Nat} {xs : List PyData} (h : SwL w d xs) (hw : w ≤ w') (hd : d ≤ d') : SwL w' d' xs := ⟨h.sh, h.ls, Nat.le_trans h.wt hw, Nat.le_trans h.dp hd⟩
theorem SwL.tup {w d : Nat} {xs : List PyData} (h : SwL w d xs) : Sw w (d + 1) (.tuple xs) := ⟨by simpa only [PyData.showable] using h.sh, by simpa only [PyData.leavesShort] using h.ls, by have := h.wt; simp only [PyData.weight]; omega, by have := h.dp; simp only [PyData.depth]; omega⟩
theorem SwL.list {w d : Nat} {xs : List PyData} (h : SwL w d xs) : Sw w (d + 1) (.list xs) := ⟨by simpa only [PyData.showable] using h.sh, by simpa only [PyData.leavesShort] using h.ls, by have := h.wt; simp only [PyData.weight]; omega, by have := h.dp; simp only [PyData.depth]; omega⟩
theorem Sw.items {w d : Nat} {xs : List PyData} (h : Sw w d (.tuple xs)) : 1 ≤ d ∧ SwL w (d - 1) xs := by
  have h1 := h.sh; have h2 := h.ls; have h3 := h.wt; have h4 := h.dp
  simp only [PyData.showable] at h1
  simp only [PyData.leavesShort] at h2
  simp only [PyData.weight] at h3
  simp only [PyData.depth] at h4
  exact ⟨by omega, h1, h2, h3, by omega⟩
theorem Sw.itemsL {w d : Nat} {xs : List PyData} (h : Sw w d (.list xs)) : 1 ≤ d ∧ SwL w (d - 1) xs := by
  have h1 := h.sh; have h2 := h.ls; have h3 := h.wt; have h4 := h.dp
  simp only [PyData.showable] at h1
  simp only [PyData.leavesShort] at h2
  simp only [PyData.weight] at h3
  simp only [PyData.depth] at h4
  exact ⟨by omega, h1, h2, h3, by omega⟩
theorem SwL.nil : SwL 0 0 [] := ⟨rfl, rfl, Nat.le_refl _, Nat.le_refl _⟩
theorem SwL.cons {w1 w2 d : Nat} {p : PyData} {xs : List PyData} (h : Sw w1 d p) (k : SwL w2 d xs) : SwL (w1 + 1 + w2) d (p :: xs) :=
  ⟨by simp only [PyData.showableAll, h.sh, k.sh, Bool.and_self], by simp only [PyData.leavesShortAll, h.ls, k.ls, Bool.and_self], by have := h.wt; have := k.wt; simp only [PyData.weightAll]; omega, by have := h.dp; have := k.dp; simp only [PyData.depthAll]; omega⟩
theorem SwL.head {w d : Nat} {p : PyData} {xs : List PyData} (h : SwL w d (p :: xs)) : ∃ w1 w2, w1 + 1 + w2 ≤ w ∧ Sw w1 d p ∧ SwL w2 d xs := by
  have h1 := h.sh; have h2 := h.ls; have h3 := h.wt; have h4 := h.dp
  simp only [PyData.showableAll, Bool.and_eq_true] at h1
  simp only [PyData.leavesShortAll, Bool.and_eq_true] at h2
  simp only [PyData.weightAll] at h3
  simp only [PyData.depthAll] at h4
  exact ⟨p.weight, PyData.weightAll xs, by omega, ⟨h1.1, h2.1, Nat.le_refl _, by omega⟩, ⟨h1.2, h2.2, Nat.le_refl _, by omega⟩⟩
theorem SwL.app {w1 w2 d : Nat} {xs ys : List PyData} (h : SwL w1 d xs) (k : SwL w2 d ys) : SwL (w1 + w2) d (xs ++ ys) := by
  induction xs generalizing w1 with
  | nil => exact k.mono (by omega) (Nat.le_refl _)
  | cons p xs ih =>
    obtain ⟨a, b, e, h1, h2⟩ := h.head
    exact (SwL.cons h1 (ih h2)).mono (by omega) (Nat.le_refl _)
theorem SwL.split {w d : Nat} {xs ys : List PyData} (h : SwL w d (xs ++ ys)) : ∃ w1 w2, w1 + w2 ≤ w ∧ SwL w1 d xs ∧ SwL w2 d ys := by
  induction xs generalizing w with
  | nil => exact ⟨0, w, by omega, SwL.nil.mono (Nat.le_refl _) (Nat.zero_le _), h⟩
  | cons p xs ih =>
    obtain ⟨a, b, e, h1, h2⟩ := SwL.head (xs := xs ++ ys) h
    obtain ⟨c, f, e2, h3, h4⟩ := ih h2
    exact ⟨a + 1 + c, f, by omega, SwL.cons h1 h3, h4⟩
theorem SwL.rev {w d : Nat} {xs : List PyData} (h : SwL w d xs) : SwL w d xs.reverse := by
  induction xs generalizing w with
  | nil => exact h
  | cons p xs ih =>
    obtain ⟨a, b, e, h1, h2⟩ := h.head
    rw [List.reverse_cons]
    exact (SwL.app (ih h2) (SwL.cons h1 (SwL.nil.mono (Nat.le_refl _) (Nat.zero_le _)))).mono (by omega) (Nat.le_refl _)
theorem SwL.take {w d : Nat} {xs : List PyData} (h : SwL w d xs) (n : Nat) : SwL w d (xs.take n) := by
  have h' : SwL w d (xs.take n ++ xs.drop n) := by rw [List.take_append_drop]; exact h
  obtain ⟨a, b, e, h1, _⟩ := h'.split
  exact h1.mono (by omega) (Nat.le_refl _)
theorem SwL.at {w d s : Nat} {xs : List PyData} {x : PyData} (h : SwL w d xs) (e : xs[s]? = some x) : ∃ w1 w2 w3, w1 + (w2 + 1) + w3 ≤ w ∧ SwL w1 d (xs.take s) ∧ Sw w2 d x ∧ SwL w3 d (xs.drop (s + 1)) := by
  obtain ⟨hs, rfl⟩ := List.getElem?_eq_some_iff.mp e
  have h' : SwL w d (xs.take s ++ xs[s] :: xs.drop (s + 1)) := by rw [← List.drop_eq_getElem_cons hs, List.take_append_drop]; exact h
  obtain ⟨a, b, e1, h1, h2⟩ := h'.split
  obtain ⟨c, f, e2, h3, h4⟩ := h2.head
  exact ⟨a, c, f, by omega, h1, h3, h4⟩
theorem SwL.len {w d : Nat} {xs : List PyData} (h : SwL w d xs) : xs.length ≤ w := by
  induction xs generalizing w with
  | nil => exact Nat.zero_le _
  | cons p xs ih =>
    obtain ⟨a, b, e, h1, h2⟩ := h.head
    have := ih h2
    simp
    omega
end VL
set_option Elab.async false
set_option linter.all false
set_option maxRecDepth 100000
set_option maxHeartbeats 4000000
namespace LawP
open PySem PySem.Spec PyProof.Rows L2 VL
def t_check_word (S_word_error : SV) : VS :=
  (sSeq (sSet 2 (vCall S_word_error (vCons (vVar 0) (vCons (vVar 1) vNil))))
  (sIf (vTst (vBin (gIsN true) (vBor 2) (vC (.py .none))))
  (sRaise1 "BadWord" "error" (vVar 2))
  sNext))
def t_queue_with : VS :=
  (sSeq (sSet 3 (vIf (vTst (vBin (gIn false) (vBor 2) (vBor 0))) (vBin gAdd (vMth isSq gIndex (vBor 0) (vCons (vBor 2) vNil)) (vC (.py (.int 1)))) (vCal gLen (vCons (vBor 0) vNil))))
  (sRet (vBin gAdd (vBin gAdd (vSl gSl (vBor 0) oNo (oAt (vBor 3))) (vTup (vCons (vVar 1) vNil))) (vSl gSl (vBor 0) (oAt (vBor 3)) oNo))))
def t_steps_of (S_mates : SV) (S_queue_with : SV) : VS :=
  (sSeq (sPar [2, 3, 4, 5] (mCons true (vLst vNil) (mCons false (vTup vNil) (mCons false (vC (.py (.int 0))) (mCons false (vCall S_mates (vCons (vVar 0) vNil)) mNil)))))
  (sSeq (sFor (iS (vVar 1)) (tgName 6)
  (sSeq (sIf (vTst (vBin gEq (vBor 6) (vC (.py (.str "a")))))
  (sSeq (sPar [7, 4] (mCons false (vVar 4) (mCons false (vBin gAdd (vBor 4) (vC (.py (.int 1)))) mNil)))
  (sSet 3 (vCall S_queue_with (vCons (vVar 3) (vCons (vVar 7) (vCons (vBin gIx (vBor 5) (vBor 7)) vNil))))))
  (sPar [7, 3] (mCons false (vBin gIx (vBor 3) (vC (.py (.int 0)))) (mCons false (vSl gSl (vBor 3) (oAt (vC (.py (.int 1)))) oNo) mNil))))
  (sMut 2 gApp (vCons (vTup (vCons (vVar 6) (vCons (vVar 7) (vCons (vVar 3) vNil)))) vNil))))
  (sFrz 2 (sRet (vVar 2)))))
def t_run (S_check_word : SV) (S_steps_of : SV) : VS :=
  (sSeq (sExpr (vCall S_check_word (vCons (vVar 0) (vCons (vVar 1) vNil))))
  (sSeq (sSet 2 (vCall S_steps_of (vCons (vVar 0) (vCons (vVar 1) vNil))))
  (sSeq (sSet 3 (vLc [4, 5, 6] (iS (vBor 2)) (tgTup 3 (tgCons (tgName 4) (tgCons (tgName 5) (tgCons (tgName 6) tgNil)))) (vTst (vBin gEq (vBor 4) (vC (.py (.str "s"))))) (vVar 5)))
  (sRet (vTup (vCons (vCal gTuple (vCons (vBor 3) vNil)) (vCons (vIf (vTst (vBin gNe (vBor 2) (vLst vNil))) (vBin gIx (vBin gIx (vBor 2) (vUn gNeg (vC (.py (.int 1))))) (vC (.py (.int 2)))) (vTup vNil)) vNil)))))))
def t_law_played : VS :=
  (sSeq (sPar [2, 3, 4, 5] (mCons true (vLst vNil) (mCons false (vLst vNil) (mCons true (vLst vNil) (mCons false (vC (.py (.int 0))) mNil)))))
  (sSeq (sFor (iS (vVar 1)) (tgName 6)
  (sSeq (sIf (vTst (vBin gEq (vBor 6) (vC (.py (.str "s")))))
  (sSeq (sSet 7 (vBin gIx (vBor 3) (vC (.py (.int 0)))))
  (sSeq (sSet 3 (vSl gSl (vBor 3) (oAt (vC (.py (.int 1)))) oNo))
  (sMut 2 gApp (vCons (vVar 7) vNil))))
  (sSeq (sSet 7 (vVar 5))
  (sSeq (sSet 5 (vBin gAdd (vBor 5) (vC (.py (.int 1)))))
  (sSeq (sSet 8 (vLc [10] (iS (vBor 3)) (tgName 10) (vTst (vBin gEq (vBin gIx (vBor 0) (vBor 10)) (vBin gIx (vBor 0) (vBor 7)))) (vVar 10)))
  (sSeq (sSet 9 (vIf (vTst (vBin gNe (vBor 8) (vLst vNil))) (vBin gAdd (vMth isSq gIndex (vBor 3) (vCons (vBin gIx (vBor 8) (vUn gNeg (vC (.py (.int 1))))) vNil)) (vC (.py (.int 1)))) (vCal gLen (vCons (vBor 3) vNil))))
  (sSet 3 (vBin gAdd (vBin gAdd (vSl gSl (vBor 3) oNo (oAt (vBor 9))) (vLst (vCons (vVar 7) vNil))) (vSl gSl (vBor 3) (oAt (vBor 9)) oNo))))))))
  (sMut 4 gApp (vCons (vTup (vCons (vVar 6) (vCons (vVar 7) (vCons (vCal gTuple (vCons (vBor 3) vNil)) vNil)))) vNil))))
  (sFrz 4 (sRet (vLst (vCons (vCal gTuple (vCons (vBor 2) vNil)) (vCons (vCal gTuple (vCons (vBor 3) vNil)) (vCons (vVar 4) vNil))))))))
end LawP
set_option Elab.async false
set_option linter.all false
namespace LawP
open PySem VL
/-! ### the queue: the mathematics -/
/-- p stands at place i -/
def insAt (ws : List Nat) (i p : Nat) : List Nat := ws.take i ++ p :: ws.drop i
/-- where p joins: behind the mate, or at the end -/
def joinPl (ws : List Nat) (m : Option Nat) : Nat := match m with
  | some k => if k ∈ ws then ws.idxOf k + 1 else ws.length
  | none => ws.length
def joinQ (ws : List Nat) (p : Nat) (m : Option Nat) : List Nat := insAt ws (joinPl ws m) p
theorem mem_insAt {ws : List Nat} {i p x : Nat} : x ∈ insAt ws i p ↔ x = p ∨ x ∈ ws := by
  unfold insAt
  rw [List.mem_append, List.mem_cons]
  constructor
  · rintro (h | h | h)
    · exact .inr (List.mem_of_mem_take h)
    · exact .inl h
    · exact .inr (List.mem_of_mem_drop h)
  · rintro (h | h)
    · exact .inr (.inl h)
    · rw [← List.take_append_drop i ws] at h
      exact (List.mem_append.mp h).elim .inl fun h => .inr (.inr h)
theorem insAt_len (ws : List Nat) (i p : Nat) : (insAt ws i p).length = ws.length + 1 := by
  unfold insAt
  rw [List.length_append, List.length_cons, List.length_take, List.length_drop]
  omega
theorem joinQ_len (ws : List Nat) (p : Nat) (m : Option Nat) : (joinQ ws p m).length = ws.length + 1 := insAt_len _ _ _
theorem mem_joinQ {ws : List Nat} {p x : Nat} {m : Option Nat} : x ∈ joinQ ws p m ↔ x = p ∨ x ∈ ws := mem_insAt
/-- members of a group stand in the order of their arrival, and who came behind a waiting one waits, too -/
structure QInv (row : List Int) (a : Nat) (ws : List Nat) : Prop where
  lt : ∀ x ∈ ws, x < a
  up : ∀ x ∈ ws, ∀ y, x < y → y < a → row[x]? = row[y]? → y ∈ ws
  ord : ws.Pairwise fun x y => row[x]? = row[y]? → x < y
  nd : ws.Nodup
theorem QInv.nil (row : List Int) (a : Nat) : QInv row a [] := ⟨by simp, by simp, .nil, .nil⟩
theorem QInv.serve {row : List Int} {a x : Nat} {ws : List Nat} (h : QInv row a (x :: ws)) : QInv row a ws := by
  obtain ⟨h1, h2, h3, h4⟩ := h
  rw [List.pairwise_cons] at h3
  rw [List.nodup_cons] at h4
  refine ⟨fun y hy => h1 y (List.mem_cons_of_mem _ hy), fun y hy z l1 l2 e => ?_, h3.2, h4.2⟩
  rcases List.mem_cons.mp (h2 y (List.mem_cons_of_mem _ hy) z l1 l2 e) with rfl | h
  · have := h3.1 y hy e.symm
    omega
  · exact h
theorem mem_take_idx {ws : List Nat} {k x : Nat} (hnd : ws.Nodup) (h : x ∈ ws.drop (ws.idxOf k + 1)) : x ≠ k := by
  intro e
  subst e
  obtain ⟨j, hj, e⟩ := List.mem_iff_getElem.mp h
  rw [List.getElem_drop] at e
  have hx : x ∈ ws := List.mem_of_mem_drop h
  have hi := List.idxOf_lt_length_of_mem hx
  have e2 : ws[ws.idxOf x] = x := List.getElem_idxOf hi
  rw [List.length_drop] at hj
  have := (List.getElem_inj (h₀ := by omega) (h₁ := hi) hnd).mp (e.trans e2.symm)
  omega
theorem pair_idx {row : List Int} {ws : List Nat} {k x : Nat} (hp : ws.Pairwise fun x y => row[x]? = row[y]? → x < y) (hk : k ∈ ws) (h : x ∈ ws.drop (ws.idxOf k + 1)) (e : row[k]? = row[x]?) : k < x := by
  obtain ⟨j, hj, ej⟩ := List.mem_iff_getElem.mp h
  rw [List.getElem_drop] at ej
  rw [List.length_drop] at hj
  have hi := List.idxOf_lt_length_of_mem hk
  have e2 : ws[ws.idxOf k] = k := List.getElem_idxOf hi
  have := List.pairwise_iff_getElem.mp hp (ws.idxOf k) (ws.idxOf k + 1 + j) hi (by omega) (by omega)
  rw [e2, ej] at this
  exact this e
theorem QInv.mate_in {row : List Int} {a x : Nat} {ws : List Nat} {g : Int} (h : QInv row a ws) (hg : row[a]? = some g) (hx : x ∈ ws) (e : row[x]? = some g) : ∃ m, lastIn row g a = some m ∧ m ∈ ws := by
  have hxa := h.lt x hx
  cases hm : lastIn row g a with
  | none => exact absurd e (lastIn_none hm x hxa)
  | some m =>
    obtain ⟨m1, m2, m3⟩ := lastIn_some hm
    refine ⟨m, rfl, ?_⟩
    rcases Nat.lt_trichotomy x m with l | l | l
    · exact h.up x hx m l m1 (by rw [e, m2])
    · rw [← l]; exact hx
    · exact absurd e (m3 x l hxa)
theorem QInv.join {row : List Int} {a : Nat} {ws : List Nat} {g : Int} (h : QInv row a ws) (hg : row[a]? = some g) : QInv row (a + 1) (joinQ ws a (mateOf row a)) := by
  have hna : a ∉ ws := fun m => by have := h.lt a m; omega
  have same : ∀ i, (∀ x ∈ ws.drop i, row[x]? ≠ row[a]?) → QInv row (a + 1) (insAt ws i a) := fun i hd => by
    refine ⟨fun x hx => ?_, fun x hx y l1 l2 e => ?_, ?_, ?_⟩
    · rcases mem_insAt.mp hx with rfl | hx
      · omega
      · have := h.lt x hx; omega
    · rcases mem_insAt.mp hx with rfl | hx
      · omega
      · by_cases ey : y = a
        · exact mem_insAt.mpr (.inl ey)
        · exact mem_insAt.mpr (.inr (h.up x hx y l1 (by omega) e))
    · unfold insAt
      have hp := h.ord
      rw [← List.take_append_drop i ws, List.pairwise_append] at hp
      rw [List.pairwise_append, List.pairwise_cons]
      refine ⟨hp.1, ⟨fun x hx e => absurd e.symm (hd x hx), hp.2.1⟩, fun x hx y hy e => ?_⟩
      rcases List.mem_cons.mp hy with rfl | hy
      · exact h.lt x (List.mem_of_mem_take hx)
      · exact hp.2.2 x hx y hy e
    · unfold insAt
      have hp := h.nd
      rw [← List.take_append_drop i ws, List.nodup_append] at hp
      rw [List.nodup_append, List.nodup_cons]
      refine ⟨hp.1, ⟨fun m => hna (List.mem_of_mem_drop m), hp.2.1⟩, fun x hx y hy e => ?_⟩
      rcases List.mem_cons.mp hy with rfl | hy
      · exact hna (by rw [← e]; exact List.mem_of_mem_take hx)
      · exact hp.2.2 x hx y hy e
  unfold joinQ
  rw [mateOf_at hg]
  cases hm : lastIn row g a with
  | none =>
    exact same _ (by unfold joinPl; simp)
  | some m =>
    obtain ⟨m1, m2, m3⟩ := lastIn_some hm
    unfold joinPl
    simp only
    split
    · rename_i hmw
      refine same _ fun x hx e => ?_
      rw [hg] at e
      have := pair_idx h.ord hmw hx (by rw [m2, e])
      exact m3 x this (h.lt x (List.mem_of_mem_drop hx)) e
    · refine same _ (by simp)
/-- those of a's group who wait -/
def alike (row : List Int) (ws : List Nat) (a : Nat) : List Nat := ws.filter fun x => row[x]? == row[a]?
theorem alike_last {row : List Int} {a : Nat} {ws : List Nat} {g : Int} (h : QInv row a ws) (hg : row[a]? = some g) : joinPl ws (mateOf row a) = match (alike row ws a).getLast? with
    | some m => ws.idxOf m + 1
    | none => ws.length := by
  rw [mateOf_at hg]
  have mem : ∀ x, x ∈ alike row ws a ↔ x ∈ ws ∧ row[x]? = some g := fun x => by
    unfold alike
    rw [List.mem_filter, hg]
    simp
  cases hl : (alike row ws a).getLast? with
  | none =>
    have e : alike row ws a = [] := List.getLast?_eq_none_iff.mp hl
    simp only
    cases hm : lastIn row g a with
    | none => rfl
    | some m =>
      obtain ⟨m1, m2, m3⟩ := lastIn_some hm
      unfold joinPl
      simp only
      rw [if_neg]
      intro hmw
      have := (mem m).mpr ⟨hmw, m2⟩
      rw [e] at this; simp at this
  | some L =>
    simp only
    have hL : L ∈ alike row ws a := List.mem_of_getLast? hl
    obtain ⟨L1, L2⟩ := (mem L).mp hL
    obtain ⟨m, hm, hmw⟩ := h.mate_in hg L1 L2
    obtain ⟨m1, m2, m3⟩ := lastIn_some hm
    have hmA := (mem m).mpr ⟨hmw, m2⟩
    have e : m = L := by
      obtain ⟨pre, hpre⟩ : ∃ pre, alike row ws a = pre ++ [L] := by
        obtain ⟨ys, hys⟩ := List.getLast?_eq_some_iff.mp hl
        exact ⟨ys, hys⟩
      have hord : (alike row ws a).Pairwise fun x y => row[x]? = row[y]? → x < y := h.ord.sublist List.filter_sublist
      rw [hpre] at hmA hord
      rcases List.mem_append.mp hmA with h' | h'
      · have := (List.pairwise_append.mp hord).2.2 m h' L (by simp) (by rw [m2, L2])
        exact absurd L2 (m3 L this (h.lt L L1))
      · simpa using h'
    subst e
    rw [hm]
    unfold joinPl
    simp only
    rw [if_pos hmw]
/-! ### words done -/
/-- a beginning of a history, behind a arrivals and s services -/
def okP (n : Nat) : Nat → Nat → List Nat → Prop
  | _, _, [] => True
  | a, s, c :: w => (c = 97 ∧ a < n ∧ okP n (a + 1) s w) ∨ (c = 115 ∧ s < a ∧ okP n a (s + 1) w)
/-- letter, person, waiting: for each letter -/
def stepsL (row : List Int) : Nat → List Nat → List Nat → List (Nat × Nat × List Nat)
  | _, _, [] => []
  | a, ws, c :: w => if c = 97 then (c, a, joinQ ws a (mateOf row a)) :: stepsL row (a + 1) (joinQ ws a (mateOf row a)) w else match ws with
    | x :: ws' => (c, x, ws') :: stepsL row a ws' w
    | [] => []
theorem stepsL_a (row : List Int) (a : Nat) (ws w : List Nat) : stepsL row a ws (97 :: w) = (97, a, joinQ ws a (mateOf row a)) :: stepsL row (a + 1) (joinQ ws a (mateOf row a)) w := rfl
theorem stepsL_s (row : List Int) (a x : Nat) (ws w : List Nat) : stepsL row a (x :: ws) (115 :: w) = (115, x, ws) :: stepsL row a ws w := rfl
/-- who was served -/
def servedL (st : List (Nat × Nat × List Nat)) : List Nat := (st.filter fun p => p.1 == 115).map fun p => p.2.1
/-- who waits at the end -/
def waitL (st : List (Nat × Nat × List Nat)) : List Nat := match st.getLast? with
  | some p => p.2.2
  | none => []
theorem scan_ok {n : Nat} : ∀ {w : List Nat} {k a s : Nat}, (∀ c ∈ w, isL c = true) → s ≤ a → a ≤ n → (scanP n k a s w = .none ↔ okP n a s w)
  | [], k, a, s, _, _, _ => by simp [scanP, okP]
  | c :: w, k, a, s, hL, h1, h2 => by
    have hc := hL c List.mem_cons_self
    have hw : ∀ d ∈ w, isL d = true := fun d hd => hL d (List.mem_cons_of_mem _ hd)
    unfold scanP okP
    by_cases e : c = 97
    · subst e
      rw [if_pos rfl]
      by_cases e2 : a = n
      · rw [if_pos e2]
        simp
        intro h; omega
      · rw [if_neg e2, scan_ok hw (by omega) (by omega)]
        simp
        intro _; omega
    · have e' : c = 115 := by simp [isL] at hc; exact hc.resolve_left e
      subst e'
      rw [if_neg e]
      by_cases e2 : s = a
      · rw [if_pos e2]
        simp
        intro h; omega
      · rw [if_neg e2, scan_ok hw (by omega) h2]
        simp
        intro _; omega
theorem okP_let {n : Nat} : ∀ {w : List Nat} {a s : Nat}, okP n a s w → ∀ c ∈ w, isL c = true
  | [], _, _, _, c, h => by simp at h
  | d :: w, a, s, h, c, hc => by
    rcases List.mem_cons.mp hc with rfl | hc
    · rcases h with ⟨rfl, _⟩ | ⟨rfl, _⟩ <;> rfl
    · exact h.elim (fun q => okP_let q.2.2 c hc) fun q => okP_let q.2.2 c hc
theorem badW_okP {n : Nat} {w : List Nat} (h : okP n 0 0 w) : badW w = [] := badW_nil fun i d hd => okP_let h d (List.mem_of_getElem? hd)
theorem wErr_none {n : Nat} {w : List Nat} : wErrL n w = .none ↔ okP n 0 0 w := by
  unfold wErrL
  constructor
  · intro h
    cases e : badW w with
    | nil => rw [e] at h; exact (scan_ok (badW_none e) (Nat.le_refl _) (Nat.zero_le _)).mp h
    | cons i r => rw [e] at h; cases h
  · intro h
    rw [badW_okP h]
    exact (scan_ok (okP_let h) (Nat.le_refl _) (Nat.zero_le _)).mpr h
end LawP
set_option Elab.async false
set_option linter.all false
set_option maxRecDepth 100000
set_option maxHeartbeats 4000000
namespace LawP
open PySem PySem.Spec PyProof.Rows L2 VL
/-! ### queue_with -/
theorem ex_pN (ws : List Nat) (m : Option Nat) : (∃ x, x ∈ ws ∧ (pN x).eqv (oN m) = true) ↔ ∃ k, m = some k ∧ k ∈ ws := by
  constructor
  · rintro ⟨x, hx, e⟩
    cases m with
    | none => simp [pN, oN, PyData.eqv] at e
    | some k =>
      simp [pN, oN] at e
      have : x = k := by omega
      subst this
      exact ⟨_, rfl, hx⟩
  · rintro ⟨k, rfl, hk⟩
    exact ⟨k, hk, by simp [pN, oN]⟩
theorem plain_pN (ws : List Nat) : PyData.plainAll (ws.map pN) = true := by
  have : ws.map pN = (ws.map fun (n : Nat) => (n : Int)).map PyData.int := by rw [List.map_map]; rfl
  rw [this, plainAll_ints]
theorem depth_pN (ws : List Nat) : PyData.depthAll (ws.map pN) = 0 := by
  induction ws with
  | nil => rfl
  | cons w ws ih => rw [List.map_cons, depthAll_cons, ih]; rfl
theorem ix_pN {ws : List Nat} {k : Nat} (h : k ∈ ws) : ixOf (ws.map pN) (.int (k : Int)) = some (ws.idxOf k) := by
  induction ws with
  | nil => simp at h
  | cons w ws ih =>
    rw [List.map_cons, ixOf, List.idxOf_cons]
    by_cases e : w = k
    · have e1 : (pN w).eqv (.int (k : Int)) = true := by subst e; simp [pN]
      rw [if_pos e1, e]; simp
    · have e1 : ¬ (pN w).eqv (.int (k : Int)) = true := by simp [pN]; omega
      have e2 : (w == k) = false := beq_eq_false_iff_ne.mpr e
      have hk : k ∈ ws := by rcases List.mem_cons.mp h with h | h; exact absurd h.symm e; exact h
      rw [if_neg e1, ih hk, e2]; rfl
@[simp] def S_queue_with : SV := fun ds Q _ => ∃ (ws : List Nat) (p : Nat) (m : Option Nat), ds = [.py (tN ws), .py (pN p), .py (oN m)] ∧ ws.length ≤ 100000 ∧ Q (.py (tN (joinQ ws p m)))
theorem oN_plain (m : Option Nat) : (oN m).plain = true := by cases m <;> rfl
theorem oN_depth (m : Option Nat) : (oN m).depth = 0 := by cases m <;> rfl
theorem l_queue_with : ∀ ds Q E, S_queue_with ds Q E → t_queue_with (envOf 4 ds) (fin Q E) := by
  rintro ds Q E ⟨ws, p, m, rfl, hl, q⟩
  have cut : ∀ i : Nat, cutL (ws.map pN) none (some (i : Int)) ++ pN p :: cutL (ws.map pN) (some (i : Int)) none = (insAt ws i p).map pN := fun i => by
    rw [cutL_take _ (by omega), cutL_drop _ (by omega)]
    simp [insAt]
  have ln : ∀ i : Nat, (cutL (ws.map pN) none (some (i : Int))).length ≤ 16777215 ∧ (cutL (ws.map pN) none (some (i : Int))).length + 1 + (cutL (ws.map pN) (some (i : Int)) none).length ≤ 16777216 := fun i => by
    have h1 := cutL_len (ws.map pN) none (some (i : Int))
    have h2 := cutL_len (ws.map pN) (some (i : Int)) none
    rw [List.length_map] at h1 h2
    exact ⟨by omega, by omega⟩
  simp [t_queue_with, ex_pN, plain_pN, oN_plain, oN_depth, depth_pN]
  by_cases hk : ∃ k, m = some k ∧ k ∈ ws
  · rw [if_pos hk]
    obtain ⟨k, rfl, hk⟩ := hk
    refine ⟨_, ix_pN hk, ?_⟩
    have l := ln (ws.idxOf k + 1)
    have c := cut (ws.idxOf k + 1)
    push_cast at l c
    refine ⟨l.1, l.2, ?_⟩
    rw [c]
    simpa [joinQ, joinPl, hk] using q
  · rw [if_neg hk]
    have l := ln ws.length
    have c := cut ws.length
    refine ⟨l.1, l.2, ?_⟩
    rw [c]
    have : joinPl ws m = ws.length := by
      unfold joinPl
      cases m with
      | none => rfl
      | some k => simp only; rw [if_neg fun h => hk ⟨k, rfl, h⟩]
    simpa [joinQ, this] using q
/-! ### steps_of -/
def stepP (p : Nat × Nat × List Nat) : PyData := .tuple [.str (mkS [p.1]), pN p.2.1, tN p.2.2]
@[simp] def S_steps_of : SV := fun ds Q _ => ∃ (row : List Int) (w : List Nat), ds = [.py (tI row), .py (.str (mkS w))] ∧ row.length ≤ 1000 ∧ w.length ≤ 100000 ∧ okP row.length 0 0 w ∧ Q (.py (.list ((stepsL row 0 [] w).map stepP)))
theorem drop_at {α : Type} {w : List α} {k : Nat} {c : α} (hc : w[k]? = some c) : w.drop k = c :: w.drop (k + 1) := by
  have hk := (List.getElem?_eq_some_iff.mp hc).1
  rw [List.drop_eq_getElem_cons hk]
  congr 1
  exact (List.getElem?_eq_some_iff.mp hc).2
theorem l_steps_of : ∀ ds Q E, S_steps_of ds Q E → t_steps_of S_mates S_queue_with (envOf 8 ds) (fin Q E) := by
  rintro ds Q E ⟨row, w, rfl, hr, hw, hok, q⟩
  simp [t_steps_of, signsD_mkS, -forGo, -S_queue_with]
  refine ⟨hr, for_enc' encC (fun k ρ => ∃ acc a ws s x y, ρ = [.shr (.py (tI row)), .shr (.py (.str (mkS w))), .own (.py (.list acc)), .shr (.py (tN ws)), .shr (.py (.int (a : Nat))), .shr (.py (matesP row)), x, y] ∧ okP row.length a s (w.drop k) ∧ ws.length + s = a ∧ a ≤ k ∧
    acc ++ (stepsL row a ws (w.drop k)).map stepP = (stepsL row 0 [] w).map stepP ∧ acc.length = k) ⟨[], 0, [], 0, _, _, rfl, hok, rfl, Nat.le_refl _, rfl, rfl⟩ (fun k c ρ hc iv nx ct hn => ?_) (fun ρ iv => ?_)⟩
  · obtain ⟨acc, a, ws, s, x, y, rfl, h1, h2, h3, h4, h5⟩ := iv
    have hk := (List.getElem?_eq_some_iff.mp hc).1
    rw [drop_at hc] at h1 h4
    unfold okP at h1
    rcases h1 with ⟨rfl, ha, h1⟩ | ⟨rfl, ha, h1⟩
    · rw [stepsL_a] at h4
      have hm : (matesL row)[a]? = some (mateOf row a) := by simp [matesL, ha]
      have am : atI ((matesL row).map oN) (a : Int) = some (oN (mateOf row a)) := atI_map hm
      simp [matesP, am, -S_queue_with]
      refine ⟨ws, a, mateOf row a, by simp [pN], by omega, ?_⟩
      simp
      refine ⟨by omega, (hn _ ⟨_, a + 1, joinQ ws a (mateOf row a), s, _, _, rfl, h1, ?_, by omega, ?_, ?_⟩).1⟩
      · rw [joinQ_len]; omega
      · rw [List.append_assoc]
        exact h4
      · simp; omega
    · cases ws with
      | nil => simp at h2; omega
      | cons p ws =>
        rw [stepsL_s] at h4
        have c1 : cutL (pN p :: ws.map pN) (some 1) none = ws.map pN := by
          rw [cutL_drop _ (by omega)]; simp
        simp [c1]
        refine ⟨by omega, (hn _ ⟨_, a, ws, s + 1, _, _, rfl, h1, ?_, by omega, ?_, ?_⟩).1⟩
        · simp at h2; omega
        · rw [List.append_assoc]
          exact h4
        · simp; omega
  · obtain ⟨acc, a, ws, s, x, y, rfl, h1, h2, h3, h4, h5⟩ := iv
    rw [List.drop_eq_nil_of_le (by simp)] at h4
    simp [stepsL] at h4
    subst h4
    simpa using q
/-! ### check_word, run -/
@[simp] def S_check_word : SV
  | [.py (.tuple xs), .py p], Q, E => isSm p ∧ (wErr xs.length p = .none → Q (.py .none)) ∧ (wErr xs.length p ≠ .none → E ⟨"BadWord", [("error", wErr xs.length p)]⟩)
  | _, _, _ => False
theorem isNn_iff (p : PyData) : isNn p = true ↔ p = .none := by cases p <;> simp [isNn]
theorem l_check_word : ∀ ds Q E, S_check_word ds Q E → t_check_word S_word_error (envOf 3 ds) (fin Q E)
  | [.py (.tuple xs), .py p], Q, E, ⟨hs, q1, q2⟩ => by
    simp [t_check_word, -isNn]
    refine ⟨hs, ?_⟩
    cases h : isNn (wErr xs.length p) with
    | true =>
      simp [-isNn]
      exact q1 ((isNn_iff _).mp h)
    | false =>
      simp [-isNn]
      exact q2 fun e => by rw [(isNn_iff _).mpr e] at h; cases h
def runP (row : List Int) (w : List Nat) : PyData := .tuple [tN (servedL (stepsL row 0 [] w)), tN (waitL (stepsL row 0 [] w))]
@[simp] def S_run : SV := fun ds Q E => ∃ (row : List Int) (p : PyData), ds = [.py (tI row), .py p] ∧ row.length ≤ 1000 ∧ isSm p ∧ (∀ w, p = .str (mkS w) → okP row.length 0 0 w → Q (.py (runP row w))) ∧ (wErr row.length p ≠ .none → E ⟨"BadWord", [("error", wErr row.length p)]⟩)
theorem stepsL_len (row : List Int) : ∀ (w : List Nat) (a s : Nat) (ws : List Nat), okP row.length a s w → ws.length + s = a → (stepsL row a ws w).length = w.length
  | [], _, _, _, _, _ => rfl
  | c :: w, a, s, ws, h, e => by
    rcases h with ⟨rfl, h1, h⟩ | ⟨rfl, h1, h⟩
    · rw [stepsL_a, List.length_cons, stepsL_len row w (a + 1) s _ h (by rw [joinQ_len]; omega)]; rfl
    · cases ws with
      | nil => simp at e; omega
      | cons x ws => rw [stepsL_s, List.length_cons, stepsL_len row w a (s + 1) ws h (by simp at e; omega)]; rfl
theorem l_run : ∀ ds Q E, S_run ds Q E → t_run S_check_word S_steps_of (envOf 7 ds) (fin Q E) := by
  rintro ds Q E ⟨row, p, rfl, hr, hs, q1, q2⟩
  simp [t_run, -lcGo]
  refine ⟨hs, fun hn => ?_, q2⟩
  have hp : ∃ w, p = .str (mkS w) := by
    cases p <;> simp [wErr] at hn
    exact ⟨_, by rw [mkS_sl]⟩
  obtain ⟨w, rfl⟩ := hp
  have hok : okP row.length 0 0 w := by simpa [wErr, wErr_none] using hn
  have hw : w.length ≤ 100000 := by have := hs _ rfl; simpa using this
  have hl := stepsL_len row w 0 0 [] hok rfl
  have q' := q1 w rfl hok
  unfold runP at q'
  refine ⟨row, w, ⟨rfl, rfl⟩, hr, hw, hok, ?_⟩
  generalize stepsL row 0 [] w = L at hl q'
  refine lc_encF' stepP (fun p => p.1 == 115) (fun p => pN p.2.1) (fun i p hp k h1 h2 => ?_) (by omega) ?_
  · obtain ⟨c, x, ws⟩ := p
    simp [lcStep, stepP]
    by_cases e : c = 115
    · subst e; simp at h1 ⊢; exact h1
    · simp [e] at h2 ⊢; exact h2
  · simp
    have es : (List.filter (fun p => p.1 == 115) L).map (fun p => pN p.2.1) = (servedL L).map pN := by simp [servedL]
    rw [es]
    rcases List.eq_nil_or_concat L with rfl | ⟨L', z, rfl⟩
    · simpa [waitL] using q'
    · rw [if_neg (by simp)]
      refine ⟨stepP z, by rw [List.concat_eq_append, List.map_append]; exact atI_last _ _, tN z.2.2, rfl, ?_⟩
      have ew : waitL (L'.concat z) = z.2.2 := by rw [List.concat_eq_append]; simp [waitL]
      rw [ew] at q'
      simpa using q'
/-! ### the law's own queue -/
@[simp] def S_law_played : SV := fun ds Q _ => ∃ (row : List Int) (w : List Nat), ds = [.py (tI row), .py (.str (mkS w))] ∧ row.length ≤ 1000 ∧ w.length ≤ 100000 ∧ okP row.length 0 0 w ∧
  Q (.py (.list [tN (servedL (stepsL row 0 [] w)), tN (waitL (stepsL row 0 [] w)), .list ((stepsL row 0 [] w).map stepP)]))
/-- what is known while a word is done: behind it the steps so far, the queue -/
structure Doing (row : List Int) (w : List Nat) (k : Nat) (acc : List (Nat × Nat × List Nat)) (a : Nat) (ws : List Nat) : Prop where
  ok : ∃ s, okP row.length a s (w.drop k) ∧ ws.length + s = a
  ak : a ≤ k
  st : acc ++ stepsL row a ws (w.drop k) = stepsL row 0 [] w
  len : acc.length = k
  qi : QInv row a ws
  wt : waitL acc = ws
theorem Doing.start (row : List Int) (w : List Nat) (h : okP row.length 0 0 w) : Doing row w 0 [] 0 [] := ⟨⟨0, h, rfl⟩, Nat.le_refl _, rfl, rfl, .nil _ _, rfl⟩
theorem waitL_snoc (acc : List (Nat × Nat × List Nat)) (z : Nat × Nat × List Nat) : waitL (acc ++ [z]) = z.2.2 := by simp [waitL]
theorem Doing.arr {row : List Int} {w : List Nat} {k a : Nat} {acc : List (Nat × Nat × List Nat)} {ws : List Nat} (h : Doing row w k acc a ws) (hc : w[k]? = some 97) : a < row.length ∧ Doing row w (k + 1) (acc ++ [(97, a, joinQ ws a (mateOf row a))]) (a + 1) (joinQ ws a (mateOf row a)) := by
  obtain ⟨⟨s, h1, h2⟩, h3, h4, h5, h6, h7⟩ := h
  rw [drop_at hc] at h1 h4
  rcases h1 with ⟨_, ha, h1⟩ | ⟨e, _⟩
  · rw [stepsL_a] at h4
    obtain ⟨g, hg⟩ : ∃ g, row[a]? = some g := ⟨row[a], List.getElem?_eq_getElem ha⟩
    exact ⟨ha, ⟨⟨s, h1, by rw [joinQ_len]; omega⟩, by omega, by rw [List.append_assoc]; exact h4, by simp; omega, h6.join hg, waitL_snoc _ _⟩⟩
  · cases e
theorem Doing.ser {row : List Int} {w : List Nat} {k a : Nat} {acc : List (Nat × Nat × List Nat)} {ws : List Nat} (h : Doing row w k acc a ws) (hc : w[k]? = some 115) : ∃ x ws', ws = x :: ws' ∧ Doing row w (k + 1) (acc ++ [(115, x, ws')]) a ws' := by
  obtain ⟨⟨s, h1, h2⟩, h3, h4, h5, h6, h7⟩ := h
  rw [drop_at hc] at h1 h4
  rcases h1 with ⟨e, _⟩ | ⟨_, ha, h1⟩
  · cases e
  · cases ws with
    | nil => simp at h2; omega
    | cons x ws =>
      rw [stepsL_s] at h4
      exact ⟨x, ws, rfl, ⟨⟨s + 1, h1, by simp at h2; omega⟩, by omega, by rw [List.append_assoc]; exact h4, by simp; omega, h6.serve, waitL_snoc _ _⟩⟩
theorem Doing.let {row : List Int} {w : List Nat} {k a c : Nat} {acc : List (Nat × Nat × List Nat)} {ws : List Nat} (h : Doing row w k acc a ws) (hc : w[k]? = some c) : c = 97 ∨ c = 115 := by
  obtain ⟨⟨s, h1, h2⟩, _⟩ := h
  rw [drop_at hc] at h1
  rcases h1 with ⟨e, _⟩ | ⟨e, _⟩
  · exact .inl e
  · exact .inr e
theorem Doing.fin {row : List Int} {w : List Nat} {k a : Nat} {acc : List (Nat × Nat × List Nat)} {ws : List Nat} (h : Doing row w k acc a ws) (hk : w.length ≤ k) : acc = stepsL row 0 [] w ∧ ws = waitL (stepsL row 0 [] w) := by
  have h4 := h.st
  rw [List.drop_eq_nil_of_le hk] at h4
  simp [stepsL] at h4
  exact ⟨h4, by rw [← h4]; exact h.wt.symm⟩
theorem servedL_snoc (acc : List (Nat × Nat × List Nat)) (c x : Nat) (ws : List Nat) : servedL (acc ++ [(c, x, ws)]) = servedL acc ++ if c = 115 then [x] else [] := by
  unfold servedL
  rw [List.filter_append, List.map_append]
  by_cases h : c = 115
  · simp [h]
  · simp [h]
theorem l_law_played : ∀ ds Q E, S_law_played ds Q E → t_law_played (envOf 11 ds) (fin Q E) := by
  rintro ds Q E ⟨row, w, rfl, hr, hw, hok, q⟩
  simp [t_law_played, signsD_mkS, -forGo]
  refine for_enc' encC (fun k ρ => ∃ acc a ws sv qs st x y z u, ρ = [.shr (.py (tI row)), .shr (.py (.str (mkS w))), .own (.py (.list sv)), .shr (.py (.list qs)), .own (.py (.list st)), .shr (.py (.int (a : Nat))), x, y, z, u, .un] ∧ Doing row w k acc a ws ∧ sv = (servedL acc).map pN ∧ qs = ws.map pN ∧ st = acc.map stepP) ⟨[], 0, [], _, _, _, _, _, _, _, rfl, .start row w hok, rfl, rfl, rfl⟩ (fun k c ρ hc iv nx ct hn => ?_) (fun ρ iv => ?_)
  · obtain ⟨acc, a, ws, sv, qs, st, x, y, z, u, rfl, h, e1, e2, e3⟩ := iv
    have hk := (List.getElem?_eq_some_iff.mp hc).1
    have la : acc.length = k := h.len
    have ls : sv.length ≤ k := by
      have := List.length_filter_le (fun p => p.1 == 115) acc
      rw [e1]; simp [servedL]; omega
    have lt : st.length = k := by rw [e3]; simp [la]
    rcases h.let hc with rfl | rfl
    · obtain ⟨ha, h'⟩ := h.arr hc
      obtain ⟨g, hg⟩ : ∃ g, row[a]? = some g := ⟨row[a], List.getElem?_eq_getElem ha⟩
      have ag : atI (row.map PyData.int) (a : Int) = some (.int g) := atI_map hg
      have lw : ws.length ≤ 100000 := by
        obtain ⟨⟨s, _, e⟩, e2, _⟩ := h
        omega
      subst e2
      simp [-lcGo]
      refine lc_encF' pN (fun x => row[x]? == row[a]?) pN (fun i x hx k2 h1 h2 => ?_) (by omega) ?_
      · have hxa := h.qi.lt x (List.mem_of_getElem? hx)
        obtain ⟨gx, hgx⟩ : ∃ g, row[x]? = some g := ⟨row[x], List.getElem?_eq_getElem (by omega)⟩
        have ax : atI (row.map PyData.int) (x : Int) = some (.int gx) := atI_map hgx
        simp [hgx, hg] at h1 h2
        simp [lcStep, pN, ax, ag]
        by_cases e : gx = g
        · simp [e]; exact h1 e
        · simp [e]; exact h2 e
      · have ea : List.filter (fun x => row[x]? == row[a]?) ws = alike row ws a := rfl
        rw [ea]
        have al := alike_last h.qi hg
        have cut : ∀ i : Nat, cutL (ws.map pN) none (some (i : Int)) ++ pN a :: cutL (ws.map pN) (some (i : Int)) none = (insAt ws i a).map pN := fun i => by
          rw [cutL_take _ (by omega), cutL_drop _ (by omega)]
          simp [insAt]
        have ln : ∀ i : Nat, (cutL (ws.map pN) none (some (i : Int))).length ≤ 16777215 ∧ (cutL (ws.map pN) none (some (i : Int))).length + 1 + (cutL (ws.map pN) (some (i : Int)) none).length ≤ 16777216 := fun i => by
          have h1 := cutL_len (ws.map pN) none (some (i : Int))
          have h2 := cutL_len (ws.map pN) (some (i : Int)) none
          rw [List.length_map] at h1 h2
          exact ⟨by omega, by omega⟩
        have end_ : ∀ (i : Nat) (q1 : List PyData) x y z u, i = joinPl ws (mateOf row a) → q1 = (insAt ws i a).map pN → nx [.shr (.py (tI row)), .shr (.py (.str (mkS w))), .own (.py (.list sv)), .shr (.py (.list q1)), .own (.py (.list (st ++ [.tuple [.str (mkS [97]), .int (a : Nat), .tuple q1]]))), .shr (.py (.int ((a : Int) + 1))), x, y, z, u, .un] := fun i q1 x y z u ei eq => by
          subst ei eq
          refine (hn _ ⟨_, a + 1, _, sv, _, _, _, _, _, _, rfl, h', by rw [e1, servedL_snoc]; simp, rfl, ?_⟩).1
          rw [e3]
          simp [stepP, joinQ, pN]
        rcases List.eq_nil_or_concat (alike row ws a) with hA | ⟨L', m, hA⟩
        · rw [hA] at al ⊢
          have l := ln ws.length
          simp
          refine ⟨l.1, l.2, by omega, end_ ws.length _ _ _ _ _ (by rw [al]; rfl) (cut _)⟩
        · rw [hA] at al ⊢
          have hm : m ∈ ws := (List.mem_filter.mp (by rw [← ea] at hA; rw [hA]; simp)).1
          have el : (L'.concat m).getLast? = some m := by rw [List.concat_eq_append]; simp
          rw [el] at al
          simp at al ⊢
          have l := ln (ws.idxOf m + 1)
          have c := cut (ws.idxOf m + 1)
          push_cast at l c
          refine ⟨_, atI_last _ _, plain_pN ws, rfl, .inl (by show 0 ≤ 60; omega), _, ix_pN hm, l.1, l.2, by omega, ?_⟩
          exact end_ (ws.idxOf m + 1) _ _ _ _ _ al.symm c
    · obtain ⟨p, ws', rfl, h'⟩ := h.ser hc
      subst e2
      have c1 : cutL (pN p :: ws'.map pN) (some 1) none = ws'.map pN := by
        rw [cutL_drop _ (by omega)]; simp
      simp [c1]
      refine ⟨by omega, by omega, (hn _ ⟨_, a, ws', _, _, _, _, _, _, _, rfl, h', ?_, rfl, ?_⟩).1⟩
      · rw [e1, servedL_snoc]; simp
      · rw [e3]; simp [stepP]
  · obtain ⟨acc, a, ws, sv, qs, st, x, y, z, u, rfl, h, e1, e2, e3⟩ := iv
    obtain ⟨f1, f2⟩ := h.fin (by simp)
    subst e1 e2 e3
    rw [f1, f2]
    simpa using q
/-! ### sizes -/
theorem okP_len {n : Nat} : ∀ {w : List Nat} {a s : Nat}, okP n a s w → a ≤ n → s ≤ a → w.length + a + s ≤ 2 * n
  | [], a, s, _, h1, h2 => by simp; omega
  | c :: w, a, s, h, h1, h2 => by
    rcases h with ⟨_, ha, h⟩ | ⟨_, ha, h⟩
    · have := okP_len h (by omega) (by omega); simp; omega
    · have := okP_len h h1 (by omega); simp; omega
theorem steps_bound {row : List Int} : ∀ {w : List Nat} {a s : Nat} {ws : List Nat}, okP row.length a s w → a ≤ row.length → ws.length + s = a → (∀ x ∈ ws, x < row.length) → ∀ e ∈ stepsL row a ws w, e.2.1 < row.length ∧ (∀ x ∈ e.2.2, x < row.length) ∧ e.2.2.length ≤ row.length ∧ (e.1 = 97 ∨ e.1 = 115)
  | [], _, _, _, _, _, _, _, e, he => by simp [stepsL] at he
  | c :: w, a, s, ws, h, h0, hl, hb, e, he => by
    rcases h with ⟨rfl, ha, h⟩ | ⟨rfl, ha, h⟩
    · rw [stepsL_a] at he
      have hb' : ∀ x ∈ joinQ ws a (mateOf row a), x < row.length := fun x hx => by
        rcases mem_joinQ.mp hx with rfl | hx
        · exact ha
        · exact hb x hx
      rcases List.mem_cons.mp he with rfl | he
      · exact ⟨ha, hb', by show (joinQ ws a (mateOf row a)).length ≤ _; rw [joinQ_len]; omega, .inl rfl⟩
      · exact steps_bound h (by omega) (by rw [joinQ_len]; omega) hb' e he
    · cases ws with
      | nil => simp at hl; omega
      | cons x ws =>
        rw [stepsL_s] at he
        rcases List.mem_cons.mp he with rfl | he
        · refine ⟨hb x List.mem_cons_self, fun y hy => hb y (List.mem_cons_of_mem _ hy), ?_, .inr rfl⟩
          simp at hl
          show ws.length ≤ row.length
          omega
        · exact steps_bound h h0 (by simp at hl; omega) (fun y hy => hb y (List.mem_cons_of_mem _ hy)) e he
theorem Sw.tN {n : Nat} {xs : List Nat} (h : ∀ x ∈ xs, x < 10 ^ 9) (hn : xs.length ≤ n) : Sw (41 * n) 3 (tN xs) := Sw.tup (w := 40) (d := 2) (fun p hp => by
  obtain ⟨x, hx, rfl⟩ := List.mem_map.mp hp
  exact Sw.pN (by have := h x hx; omega)) (by rw [List.length_map]; exact hn)
theorem served_mem {L : List (Nat × Nat × List Nat)} {x : Nat} (h : x ∈ servedL L) : ∃ e ∈ L, e.2.1 = x := by
  unfold servedL at h
  obtain ⟨e, he, rfl⟩ := List.mem_map.mp h
  exact ⟨e, (List.mem_filter.mp he).1, rfl⟩
theorem wait_mem {L : List (Nat × Nat × List Nat)} (hne : L ≠ []) : ∃ e ∈ L, waitL L = e.2.2 := by
  rcases List.eq_nil_or_concat L with rfl | ⟨L', z, rfl⟩
  · exact absurd rfl hne
  · exact ⟨z, by rw [List.concat_eq_append]; simp, by rw [List.concat_eq_append, waitL_snoc]⟩
theorem runP_sw {row : List Int} {w : List Nat} (hr : row.length ≤ 40) (h : okP row.length 0 0 w) : Sw 10000 4 (runP row w) := by
  have hb := steps_bound (ws := []) h (Nat.zero_le _) rfl (by simp)
  have hl := stepsL_len row w 0 0 [] h rfl
  have hw := okP_len h (Nat.zero_le _) (Nat.le_refl _)
  have s1 : Sw 3300 3 (tN (servedL (stepsL row 0 [] w))) := (Sw.tN (n := 80) (fun x hx => by
    obtain ⟨e, he, rfl⟩ := served_mem hx
    have := (hb e he).1
    omega) (by
      have := List.length_filter_le (fun p => p.1 == 115) (stepsL row 0 [] w)
      unfold servedL
      rw [List.length_map]
      omega)).mono (by omega) (by omega)
  have s2 : Sw 3300 3 (tN (waitL (stepsL row 0 [] w))) := by
    by_cases hne : stepsL row 0 [] w = []
    · rw [hne]; decide +kernel
    · obtain ⟨e, he, ee⟩ := wait_mem hne
      rw [ee]
      exact (Sw.tN (n := 80) (fun x hx => by have := (hb e he).2.1 x hx; omega) (by have := (hb e he).2.2.1; omega)).mono (by omega) (by omega)
  exact (Sw.t2 s1 s2).mono (by omega) (by omega)
end LawP
set_option Elab.async false
set_option linter.all false
set_option maxRecDepth 100000
set_option maxHeartbeats 4000000
namespace LawP
open PySem PySem.Spec PyProof.Rows L2 VL
/-! ### drawn rows, odd values -/
@[simp] def S_c_row (r : Addr) : SV
  | [.raw v, .py (.int m)], Q, _ => v = .ref r ∧ 1 ≤ m ∧ m ≤ 40 ∧ ∀ gs : List Int, gs ≠ [] → gs.length ≤ m → (∀ g ∈ gs, 0 ≤ g ∧ g ≤ 1000000000) → Q (.py (tI gs))
  | _, _, _ => False
def okGC (p : PyData) : Prop := ∃ g : Int, p = .int g ∧ 0 ≤ g ∧ g ≤ 1000000000
theorem okGC_list : ∀ {ps : List PyData}, (∀ p ∈ ps, okGC p) → ∃ gs : List Int, ps = gs.map PyData.int ∧ ∀ g ∈ gs, 0 ≤ g ∧ g ≤ 1000000000
  | [], _ => ⟨[], rfl, by simp⟩
  | p :: ps, h => by
    obtain ⟨g, rfl, h1, h2⟩ := h p List.mem_cons_self
    obtain ⟨gs, rfl, h3⟩ := okGC_list (ps := ps) fun q hq => h q (List.mem_cons_of_mem _ hq)
    refine ⟨g :: gs, rfl, fun x hx => ?_⟩
    rcases List.mem_cons.mp hx with rfl | hx
    · exact ⟨h1, h2⟩
    · exact h3 x hx
theorem l_c_row (r : Addr) : ∀ ds Q E, S_c_row r ds Q E → t_c_row (svTake r) (envOf 4 ds) (fin Q E)
  | [.raw v, .py (.int m)], Q, E, ⟨hv, h1, h2, q⟩ => by
    subst hv
    simp [t_c_row, -lcGo]
    intro x x0 x1
    obtain ⟨d, hd, hm⟩ := atI_ok (xs := [PyData.int 1, PyData.int 2, PyData.int 3, PyData.int 5, PyData.int 1000000000]) (i := x) (by omega) (by simp; omega)
    obtain ⟨kn, rfl, k1, k2⟩ : ∃ kn : Int, d = .int kn ∧ 1 ≤ kn ∧ kn ≤ 1000000000 := by
      simp only [List.mem_cons, List.not_mem_nil, or_false] at hm
      rcases hm with rfl | rfl | rfl | rfl | rfl <;> exact ⟨_, rfl, by omega, by omega⟩
    refine ⟨_, hd, ?_⟩
    refine ⟨by omega, by omega, fun y y0 y1 => ?_⟩
    refine ⟨by constructor <;> omega, ?_⟩
    rw [rangeP_eq]
    refine lc_mem okGC (fun p hp k hk => ?_) (by simp; omega) fun ps pl hps => ?_
    · obtain ⟨i, hi, rfl⟩ := List.mem_map.mp hp
      simp [lcStep]
      exact ⟨by omega, by omega, fun z z0 z1 => hk _ ⟨z, rfl, z0, by omega⟩⟩
    · obtain ⟨gs, rfl, hg⟩ := okGC_list hps
      have pl' : gs.length = (1 + y).toNat := by simpa using pl
      simp
      exact q gs (fun e => by subst e; simp at pl'; omega) (by omega) hg
def oddsC : List PyData := [.none, .bool true, .bool false, .int (-1), .int 0, .int 1, .int 2, .int 40, .int (10 ^ 39), .str "", .str "a", .str "as", .str "x", .tuple [], .list [], .dict [], .tuple [.int 0], .list [.int 0], .tuple [.int 0, .int 1], .tuple [.tuple []]]
theorem oddsC_sw : ∀ p ∈ oddsC, Sw 160 2 p := by decide +kernel
@[simp] def S_c_odd (r : Addr) : SV
  | [.raw v], Q, _ => v = .ref r ∧ ∀ p ∈ oddsC, Q (.py p)
  | _, _, _ => False
theorem l_c_odd (r : Addr) : ∀ ds Q E, S_c_odd r ds Q E → t_c_odd (svTake r) (envOf 2 ds) (fin Q E)
  | [.raw v], Q, E, ⟨hv, q⟩ => by
    subst hv
    simp [t_c_odd]
    intro x x0 x1
    obtain ⟨d, hd, hm⟩ := atI_ok (xs := oddsC) (i := x) (by omega) (by simp [oddsC]; omega)
    exact ⟨d, hd, q d hm⟩
/-! ### times -/
def IsTm (n : Nat) (p : PyData) : Prop := ∃ ts : List Int, p = tI ts ∧ ts.length = n ∧ (∀ t ∈ ts, 0 ≤ t ∧ t ≤ 1000000000) ∧ ts.Pairwise (· ≤ ·)
theorem isInt_all : ∀ {xs : List PyData} {lo hi : Int}, (∀ x ∈ xs, isInt x lo hi = true) → ∃ ts : List Int, xs = ts.map PyData.int ∧ ∀ t ∈ ts, lo ≤ t ∧ t ≤ hi
  | [], _, _, _ => ⟨[], rfl, by simp⟩
  | x :: xs, lo, hi, h => by
    obtain ⟨c, rfl, h1, h2⟩ := isInt_ex (h x List.mem_cons_self)
    obtain ⟨ts, rfl, h3⟩ := isInt_all fun y hy => h y (List.mem_cons_of_mem _ hy)
    exact ⟨c :: ts, rfl, fun t ht => (List.mem_cons.mp ht).elim (fun e => e ▸ ⟨h1, h2⟩) (h3 t)⟩
theorem sort_iff (ts : List Int) : ts = sortI ts ↔ ts.Pairwise (· ≤ ·) := ⟨fun h => by rw [h]; exact sortI_sorted _, fun h => sortI_eq (.refl _) h⟩
theorem eqvI : ∀ (a b : List Int), PyData.eqvAll (a.map PyData.int) (b.map PyData.int) = decide (a = b)
  | [], [] => by simp [PyData.eqvAll]
  | [], _ :: _ => by simp [PyData.eqvAll]
  | _ :: _, [] => by simp [PyData.eqvAll]
  | x :: a, y :: b => by
    simp only [List.map_cons, PyData.eqvAll, eqvI a b, List.cons.injEq, Bool.decide_and, eqv_ii]
    by_cases e : x = y <;> simp [e]
theorem depI : ∀ ns : List Int, PyData.depthAll (ns.map PyData.int) = 0
  | [] => rfl
  | n :: ns => by simp [PyData.depthAll, PyData.depth, depI ns]
theorem ne_ints (a b : List Int) {Q : D → Prop} (q : Q (.py (.bool (!decide (a = b))))) : gNe (.py (.list (a.map PyData.int))) (.py (.list (b.map PyData.int))) Q := by
  cases b with
  | nil =>
    cases a with
    | nil => exact q
    | cons x a => exact q
  | cons y b =>
    refine ⟨by rw [plain_list]; exact plainAll_ints _, by rw [plain_list]; exact plainAll_ints _, .inl ?_, ?_⟩
    · show PyData.depthAll _ + 1 ≤ 60
      rw [depI]; omega
    · show Q (.py (.bool (!PyData.eqvAll (a.map PyData.int) ((y :: b).map PyData.int))))
      have e : PyData.eqvAll (a.map PyData.int) ((y :: b).map PyData.int) = decide (a = y :: b) := eqvI _ _
      rw [e]
      exact q
@[simp] def S_check_times : SV := fun ds Q E => ∃ (row : List Int) (p : PyData), ds = [.py (tI row), .py p] ∧ (∀ xs, p = .tuple xs → xs.length ≤ 1000) ∧ (IsTm row.length p → Q (.py .none)) ∧ (¬ IsTm row.length p → E ⟨"BadTimes", [("value", p)]⟩)
theorem l_check_times : ∀ ds Q E, S_check_times ds Q E → t_check_times S_is_integer (envOf 3 ds) (fin Q E) := by
  rintro ds Q E ⟨row, p, rfl, hl, q1, q2⟩
  cases p
  case tuple xs =>
    have hxs := hl xs rfl
    by_cases hn : xs.length = row.length
    · have el : (xs.map D.py) = (xs.map id).map D.py := by simp
      simp [t_check_times, hn, -lcGo]
      rw [el]
      refine lc_encM id (fun x => .bool (isInt x 0 1000000000)) (fun i x hx k k1 => ?_) (by omega) ?_
      · simp [lcStep]
        exact k1
      · have eb : xs.map (fun x => PyData.bool (isInt x 0 1000000000)) = (xs.map fun x => isInt x 0 1000000000).map PyData.bool := by simp
        rw [eb]
        refine ⟨_, allB_mk _, ?_⟩
        cases ha : ((xs.map fun x => isInt x 0 1000000000).all fun k => k) with
        | true =>
          have hall : ∀ x ∈ xs, isInt x 0 1000000000 = true := by simpa using ha
          obtain ⟨ts, rfl, ht⟩ := isInt_all hall
          simp
          refine ⟨ts, allI_map ts, ?_⟩
          have pl : PyData.plainAll (ts.map PyData.int) = true := plainAll_ints ts
          have pl2 : PyData.plainAll ((sortI ts).map PyData.int) = true := plainAll_ints _
          have fine : ts.Pairwise (· ≤ ·) → Q (.py .none) := fun h => q1 ⟨ts, rfl, by simpa using hn, ht, h⟩
          have bad : ¬ ts.Pairwise (· ≤ ·) → E ⟨"BadTimes", [("value", .tuple (ts.map PyData.int))]⟩ := fun h => q2 fun ⟨ts2, e, _, _, h4⟩ => h (by
            have e : ts.map PyData.int = ts2.map PyData.int := by unfold tI at e; injection e
            have e : ts = ts2 := (List.map_inj_right fun a b h => by injection h).mp e
            rw [e]; exact h4)
          refine ne_ints ts (sortI ts) ?_
          by_cases h : ts.Pairwise (· ≤ ·)
          · have e : ts = sortI ts := (sort_iff ts).mpr h
            rw [← e]
            simpa using fine h
          · have e : ¬ ts = sortI ts := fun e => h ((sort_iff ts).mp e)
            simpa [e] using bad h
        | false =>
          simp
          refine q2 fun ⟨ts, e, _, h3, _⟩ => ?_
          have e : xs = ts.map PyData.int := by unfold tI at e; injection e
          subst e
          have : ((List.map (fun x => isInt x 0 1000000000) (ts.map PyData.int)).all fun k => k) = true := by
            simp [isInt]
            exact h3
          rw [this] at ha
          cases ha
    · have hi : ¬ (xs.length : Int) = row.length := by omega
      simp [t_check_times, hi, -lcGo]
      refine q2 fun ⟨ts, e, h, _⟩ => ?_
      have e : xs = ts.map PyData.int := by unfold tI at e; injection e
      subst e
      exact hn (by simpa using h)
  all_goals (simp [t_check_times]; exact q2 fun ⟨ts, e, _⟩ => by cases e)
@[simp] def S_c_is_int : SV
  | [.py p, .py (.int lo), .py (.int hi)], Q, _ => Q (.py (.bool (isInt p lo hi)))
  | _, _, _ => False
theorem l_c_is_int : ∀ ds Q E, S_c_is_int ds Q E → t_c_is_int (envOf 3 ds) (fin Q E)
  | [.py p, .py (.int lo), .py (.int hi)], Q, E, q => by
    cases p <;> simp [t_c_is_int, isInt] at q ⊢ <;> try assumption
    rename_i i
    by_cases h : lo ≤ i <;> simp [h] at q ⊢ <;> exact q
@[simp] def S_c_mates : SV := fun ds Q _ => ∃ row : List Int, ds = [.py (tI row)] ∧ row.length ≤ 1000 ∧ Q (.py (.list ((matesL row).map oN)))
theorem l_c_mates : ∀ ds Q E, S_c_mates ds Q E → t_c_mates (envOf 5 ds) (fin Q E) := by
  rintro ds Q E ⟨row, rfl, hl, q⟩
  simp [t_c_mates, -forGo, -lcGo]
  refine ⟨by omega, ?_⟩
  rw [rangeP_eq]
  refine for_enc (encR 0) (fun i ρ => ∃ x y, ρ = [.shr (.py (tI row)), .own (.py (.list (((matesL row).take i).map oN))), x, y, .un]) ⟨_, _, rfl⟩ (fun i a ρ hx iv nx ct hn => ?_) (fun ρ iv => ?_)
  · obtain ⟨x, y, rfl⟩ := iv
    obtain ⟨rfl, ha⟩ := range_get hx
    simp [-lcGo, encR]
    refine ⟨by omega, ?_⟩
    rw [rangeP_eq]
    have g2 : row[a]? = some row[a] := List.getElem?_eq_getElem ha
    refine lc_encF (encR 0) (fun k => row[k]? == row[a]?) (fun k => pN k) (fun j z hx k h3 h4 => ?_) (by simp; omega) ?_
    · obtain ⟨rfl, hz⟩ := range_get hx
      have g1 : row[z]? = some row[z] := List.getElem?_eq_getElem (by omega)
      simp [lcStep, encR]
      refine ⟨_, atI_map g1, _, atI_map g2, ?_⟩
      rw [g1, g2] at h3 h4
      by_cases e : row[z] = row[a]
      · simp [e] at h3 ⊢
        exact h3
      · simp [e] at h4 ⊢
        exact h4
    · have em : mateOf row a = ((List.range a).filter fun k => row[k]? == row[a]?).getLast? := by
        unfold mateOf
        rw [g2]
        rfl
      have et : ((matesL row).take (a + 1)).map oN = ((matesL row).take a).map oN ++ [oN (mateOf row a)] := by
        have : (matesL row)[a]? = some (mateOf row a) := by unfold matesL; rw [List.getElem?_map, List.getElem?_range ha]; rfl
        rw [List.take_add_one, this]
        simp
      have hm : (matesL row).length = row.length := by unfold matesL; simp
      have go : ∀ x y, (min a (matesL row).length < 16777216) ∧ nx [.shr (.py (.tuple (row.map PyData.int))), .own (.py (.list (List.take a (List.map oN (matesL row)) ++ [oN (mateOf row a)]))), x, y, .un] := fun x y => ⟨by omega, (hn _ ⟨x, y, by rw [et, List.map_take]; rfl⟩).1⟩
      rw [em] at go
      generalize (List.range a).filter (fun k => row[k]? == row[a]?) = L at go ⊢
      rcases List.eq_nil_or_concat L with e | ⟨l, m, e⟩
      · subst e
        simp [-lcGo]
        exact go _ _
      · subst e
        have ea : atI ((l.concat m).map fun k => pN k) (-1) = some (pN m) := by
          unfold atI ixN
          simp
          have e3 : (-1 + ((l.length : Int) + 1)).toNat = l.length := by omega
          rw [if_pos (by omega), e3]
          simp
        have g3 := go
        simp at g3 ea
        simp [-lcGo]
        exact ⟨_, ea, g3 _ _⟩
  · obtain ⟨x, y, rfl⟩ := iv
    have : (matesL row).length = row.length := by unfold matesL; simp
    simp
    have e : (matesL row).take row.length = matesL row := by rw [← this, List.take_length]
    rw [← List.map_take, e]
    exact q
@[simp] def S_c_come : SV := fun ds Q _ => ∃ (ws : List Nat) (p : Nat) (m : Option Nat), ds = [.py (.list (ws.map pN)), .py (pN p), .py (oN m)] ∧ ws.length ≤ 1000 ∧ Q (.py (.list ((joinQ ws p m).map pN)))
theorem l_c_come : ∀ ds Q E, S_c_come ds Q E → t_c_come (envOf 4 ds) (fin Q E) := by
  rintro ds Q E ⟨ws, p, m, rfl, hl, q⟩
  have cut : ∀ i : Nat, cutL (ws.map pN) none (some (i : Int)) ++ pN p :: cutL (ws.map pN) (some (i : Int)) none = (insAt ws i p).map pN := fun i => by
    rw [cutL_take _ (by omega), cutL_drop _ (by omega)]
    simp [insAt]
  have ln : ∀ i : Nat, (cutL (ws.map pN) none (some (i : Int))).length ≤ 16777215 ∧ (cutL (ws.map pN) none (some (i : Int))).length + 1 + (cutL (ws.map pN) (some (i : Int)) none).length ≤ 16777216 := fun i => by
    have h1 := cutL_len (ws.map pN) none (some (i : Int))
    have h2 := cutL_len (ws.map pN) (some (i : Int)) none
    rw [List.length_map] at h1 h2
    exact ⟨by omega, by omega⟩
  simp [t_c_come, plain_pN, oN_plain, oN_depth, depth_pN]
  by_cases hk : ∃ k, m = some k ∧ k ∈ ws
  · obtain ⟨k, rfl, hk⟩ := hk
    rw [if_neg (fun h => by have := h k hk; simp [oN, pN] at this)]
    refine ⟨_, ix_pN hk, ?_⟩
    have l := ln (ws.idxOf k + 1)
    have c := cut (ws.idxOf k + 1)
    push_cast at l c
    refine ⟨l.1, l.2, ?_⟩
    rw [c]
    simpa [joinQ, joinPl, hk] using q
  · rw [if_pos (fun x hx => by
      cases hb : (pN x).eqv (oN m) with
      | false => rfl
      | true => exact absurd ((ex_pN ws m).mp ⟨x, hx, hb⟩) hk)]
    have : joinPl ws m = ws.length := by
      unfold joinPl
      cases m with
      | none => rfl
      | some k =>
        simp only
        rw [if_neg fun h => hk ⟨k, rfl, h⟩]
    refine ⟨by omega, ?_⟩
    simpa [joinQ, this, insAt] using q
theorem asc_iff (ts : List Int) : (List.filter (fun k => decide (ts.getD (k + 1) 0 < ts.getD k 0)) (List.range (ts.length - 1))).isEmpty = true ↔ ts.Pairwise (· ≤ ·) := by
  rw [List.isEmpty_iff, List.filter_eq_nil_iff]
  constructor
  · intro h
    have step : ∀ k, k + 1 < ts.length → ts.getD k 0 ≤ ts.getD (k + 1) 0 := fun k hk => by
      have := h k (List.mem_range.mpr (by omega))
      simp only [decide_eq_true_eq] at this
      omega
    have mono : ∀ d i, i + d < ts.length → ts.getD i 0 ≤ ts.getD (i + d) 0 := fun d => by
      induction d with
      | zero => intro i _; exact Int.le_refl _
      | succ d ih => intro i hi; exact Int.le_trans (ih i (by omega)) (step (i + d) (by omega))
    rw [List.pairwise_iff_getElem]
    intro i j hi hj hij
    have := mono (j - i) i (by omega)
    rw [show i + (j - i) = j by omega] at this
    rw [List.getD_eq_getElem?_getD, List.getD_eq_getElem?_getD, List.getElem?_eq_getElem hi, List.getElem?_eq_getElem hj] at this
    exact this
  · intro h k hk
    have hk := List.mem_range.mp hk
    rw [List.pairwise_iff_getElem] at h
    have := h k (k + 1) (by omega) (by omega) (by omega)
    rw [List.getD_eq_getElem?_getD, List.getD_eq_getElem?_getD, List.getElem?_eq_getElem (show k < ts.length by omega), List.getElem?_eq_getElem (show k + 1 < ts.length by omega)]
    simp only [decide_eq_true_eq, Option.getD_some]
    omega
@[simp] def S_c_is_times : SV := fun ds Q _ => ∃ (row : List Int) (p : PyData), ds = [.py (tI row), .py p] ∧ (∀ xs, p = .tuple xs → xs.length ≤ 1000) ∧ (∀ k, (k = true ↔ IsTm row.length p) → Q (.py (.bool k)))
theorem l_c_is_times : ∀ ds Q E, S_c_is_times ds Q E → t_c_is_times S_c_is_int (envOf 4 ds) (fin Q E) := by
  rintro ds Q E ⟨row, p, rfl, hl, q⟩
  cases p
  case tuple xs =>
    have hxs := hl xs rfl
    by_cases hn : xs.length = row.length
    · have el : (xs.map D.py) = (xs.map id).map D.py := by simp
      simp [t_c_is_times, hn, -lcGo]
      rw [el]
      refine lc_encF id (fun x => !isInt x 0 1000000000) (fun x => x) (fun i x hx k k1 k2 => ?_) (by omega) ?_
      · simp [lcStep]
        cases hb : isInt x 0 1000000000 with
        | true => exact k2 (by rw [hb]; rfl)
        | false => exact k1 (by rw [hb]; rfl)
      · cases ha : (xs.filter fun x => !isInt x 0 1000000000) with
        | cons y ys =>
          simp
          refine q false ⟨fun h => (by cases h), fun ⟨ts, e, _, h3, _⟩ => ?_⟩
          have e : xs = ts.map PyData.int := by unfold tI at e; injection e
          subst e
          have : y ∈ (ts.map PyData.int).filter fun x => !isInt x 0 1000000000 := by rw [ha]; exact List.mem_cons_self
          obtain ⟨m1, m2⟩ := List.mem_filter.mp this
          obtain ⟨t, ht, rfl⟩ := List.mem_map.mp m1
          have := h3 t ht
          simp [isInt] at m2
          omega
        | nil =>
          have hall : ∀ x ∈ xs, isInt x 0 1000000000 = true := fun x hx => by
            cases hb : isInt x 0 1000000000 with
            | true => rfl
            | false =>
              have : x ∈ xs.filter fun x => !isInt x 0 1000000000 := List.mem_filter.mpr ⟨hx, by rw [hb]; rfl⟩
              rw [ha] at this
              cases this
          obtain ⟨ts, rfl, ht⟩ := isInt_all hall
          simp [-lcGo]
          have hln : ts.length = row.length := by simpa using hn
          have gd : ∀ i, i < ts.length → (ts.map PyData.int)[i]? = some (.int (ts.getD i 0)) := fun i hi => by
            rw [List.getElem?_map, List.getD_eq_getElem?_getD, List.getElem?_eq_getElem hi]; rfl
          refine ⟨⟨by constructor <;> omega, by omega⟩, ?_⟩
          rw [rangeP_eq]
          refine lc_encF (encR 1) (fun k => decide (ts.getD (k + 1) 0 < ts.getD k 0)) (fun k => encR 1 k) (fun j z hx k k1 k2 => ?_) (by simp; omega) ?_
          · obtain ⟨rfl, hz⟩ := range_get hx
            simp [lcStep, encR]
            refine ⟨_, by rw [show (1 + (z : Int) - 1) = ((z : Nat) : Int) by omega]; exact atI_nat (gd z (by omega)), _, by rw [show (1 + (z : Int)) = ((z + 1 : Nat) : Int) by omega]; exact atI_nat (gd (z + 1) (by omega)), ?_⟩
            show (if decide (ts.getD (z + 1) 0 < ts.getD z 0) = true then k (some (PyData.int (1 + ↑z))) else k none)
            by_cases c : ts.getD (z + 1) 0 < ts.getD z 0
            · rw [if_pos (decide_eq_true c)]
              exact k1 (decide_eq_true c)
            · rw [if_neg (by simpa using c)]
              exact k2 (decide_eq_false c)
          · simp
            refine q _ ?_
            have := asc_iff ts
            rw [hln] at this
            simp only [List.getD_eq_getElem?_getD] at this
            refine this.trans ⟨fun h => ⟨ts, rfl, hln, ht, h⟩, fun ⟨ts2, e, _, _, h4⟩ => ?_⟩
            have e : ts.map PyData.int = ts2.map PyData.int := by unfold tI at e; injection e
            have e : ts = ts2 := (List.map_inj_right fun a b h => by injection h).mp e
            rw [e]; exact h4
    · have hi : ¬ (xs.length : Int) = row.length := by omega
      simp [t_c_is_times, hi, -lcGo]
      refine q false ⟨fun h => (by cases h), fun ⟨ts, e, h, _⟩ => ?_⟩
      have e : xs = ts.map PyData.int := by unfold tI at e; injection e
      subst e
      exact absurd (by simpa using h) hn
  all_goals (simp [t_c_is_times]; exact q false ⟨fun h => (by cases h), fun ⟨ts, e, _⟩ => by cases e⟩)
end LawP
set_option Elab.async false
set_option linter.all false
set_option maxRecDepth 100000
set_option maxHeartbeats 4000000
/-! VL68: parameters ahead of a star; keyword-only parameters. -/
namespace VL
open PySem PySem.Spec PyProof.Rows L2

/-! ### def f(a, .., *v) -/
@[simp] def svStarN (n : Nat) (S : SV) : SV := fun ds Q E => n ≤ ds.length ∧ ∃ ps, pys (ds.drop n) = some ps ∧ ps.length ≤ sizeLine ∧ S (ds.take n ++ [.py (.tuple ps)]) Q E
theorem Rps.take {b : Bg} {Z : Addr → Prop} {H : Hp} : ∀ {v : List V} {d : List D} (n : Nat), Rps b Z H v d → Rps b Z H (v.take n) (d.take n)
  | _, _, 0, _ => .nil
  | _, _, _ + 1, .nil => .nil
  | _, _, n + 1, .cons r t => .cons r (Rps.take n t)
theorem Rps.drop {b : Bg} {Z : Addr → Prop} {H : Hp} : ∀ {v : List V} {d : List D} (n : Nat), Rps b Z H v d → Rps b Z H (v.drop n) (d.drop n)
  | _, _, 0, r => r
  | _, _, _ + 1, .nil => .nil
  | _, _, n + 1, .cons _ t => Rps.drop n t
theorem Rps.append {b : Bg} {Z : Addr → Prop} {H : Hp} : ∀ {v w : List V} {d e : List D}, Rps b Z H v d → Rps b Z H w e → Rps b Z H (v ++ w) (d ++ e)
  | _, _, _, _, .nil, s => s
  | _, _, _, _, .cons r t, s => .cons r (Rps.append t s)
theorem spStarN {b : Bg} {S : SV} {n : Nat} {vs : List V} {H : Hp} {Q : VK} {E : XK} (h : spV b (svStarN n S) vs H Q E) : ∃ ws rest, vs = ws ++ rest ∧ ws.length = n ∧ rest.length ≤ sizeLine ∧ ∀ p, H p = none → ∀ o : Obj, o.dict = none → spV b S (ws ++ [V.ref p]) (upd H p (HO.th o rest)) Q E := by
  obtain ⟨Z, ds, Qd, Ed, g, r, ⟨hn, ps, e, hl, s⟩, l, m⟩ := h
  have r2 := (r.drop n).pyL e
  refine ⟨vs.take n, vs.drop n, (List.take_append_drop n vs).symm, by rw [List.length_take, r.length]; omega, by rw [r2.length]; exact hl, fun p hp o ho => ⟨Z, ds.take n ++ [.py (.tuple ps)], Qd, Ed, ⟨g.new hp, g.zb, fun a z => ?_⟩, ?_, s, fun v H' d x g1 r1 q => l v H' d ((Ex.new hp).trans x) g1 r1 q, fun c y H' er x g1 r1 q => m c y H' er ((Ex.new hp).trans x) g1 r1 q⟩⟩
  · by_cases ea : a = p
    · subst ea; rw [upd_same]; simp
    · rw [upd_ne ea]; exact g.dom a z
  · refine Rps.append ((r.take n).mono (fun _ z => .inl z) (VL.up hp)) (.cons ?_ .nil)
    show Rq Z (upd H p (HO.th o (vs.drop n))) (.ref p) (.tuple ps)
    exact Rq.tup upd_same ho (g.fresh hp) (r2.up hp)
section
variable {CX : CXT} {P : Program} {w : World} {K : PySem.W.Frag} {mg : Str → Option Value} {base : Heap} {k : Nat} {f : Addr} {name qual : Str} {params : Arguments} {body : List Stmt} {scope : Scope} {dV kV doc pm cdv ct oc : Value} {an od : Option Addr}
  {osl : Array (Option Value)} {N ps : List Str} {sp : Sp}
theorem fn_starFN {pv : Str} (lk : K.lookup f = some ⟨oc, od, .func (PySem.W.fnOf name qual params body scope dV kV doc pm an cdv ct), osl⟩) (hcd : PySem.W.codeIn K cdv qual = true) (S : FnScope N (ps ++ [pv]) scope) (hCX : StX.CXUp CX)
    (hb : ∀ us rest : List Value, us.length = ps.length → bindArgs (PySem.W.fnOf name qual params body scope dV kV doc pm an cdv ct) ⟨us ++ rest, []⟩ = (newTuple rest >>= fun t => pure (ps.zip us ++ [(pv, t)])))
    (hbody : ∀ (A : Around) (outer : List Env) (s : Shared) (H : Hp) (vs : List V) (Q : VK) (E : XK), Room k (A.deeper (envOfC qual scope s.heap.objs.size f cdv)) → sp vs H Q E →
      ∃ t, PSs (cxOf CX P w K mg base N qual scope f cdv A outer s H E) body t ∧ t { nx := fun _ H' => Q .non H', rt := Q } (L2.start N vs) H) :
    FnR P w K mg base CX (k + 1) f (fun vs H Q E => ∃ ws rest, vs = ws ++ rest ∧ ws.length = ps.length ∧ rest.length ≤ sizeLine ∧ ∀ p, H p = Option.none → ∀ o : Obj, o.dict = none → sp (ws ++ [V.ref p]) (upd H p (HO.th o rest)) Q E) := by
  intro A outer s H us vs Q E hr e0 r hsp
  obtain ⟨ws, rest, ev, hl, hz, hq⟩ := hsp
  subst ev
  obtain ⟨u1, u2, eu, r1, r2⟩ := StX.vals_split r
  subst eu
  have hn : H s.heap.objs.size = Option.none := e0.hok.fresh (Nat.le_refl _)
  have hl1 : u1.length = ps.length := by rw [← r1.length]; exact hl
  have hl2 : u2.length ≤ sizeLine := by rw [← r2.length]; exact hz
  refine StX.run_bnd lk hcd S hr e0 (G := fun xs H2 => ∃ p, H p = Option.none ∧ ∃ o : Obj, o.dict = none ∧ xs = ws ++ [V.ref p] ∧ H2 = upd H p (HO.th o rest)) (fun A' Ex Q' h => ?_) fun s2 H2 xs ⟨p, hp, o, ho, ex, eH⟩ hr' => ?_
  · rw [hb u1 u2 hl1]
    refine wpAny_bind (wpAny_newTuple (wpAny_pure ?_) hl2)
    have new : ObjOk P w (upd H s.heap.objs.size (HO.th (tob u2) rest)) (s.heap.push (tob u2)) s.heap.objs.size (HO.th (tob u2) rest) := th_ok hz r2 (Heap.get?_push_size _ rfl)
    have un := StX.un_laid (fs := frs outer) (s := s) (o := tob u2) (u := HO.th (tob u2) rest) hn
    have z := h _ _ (ws ++ [V.ref s.heap.objs.size]) (u1 ++ [Value.ref s.heap.objs.size]) (StX.env0_laid e0 new) un rfl (fun e s' => hCX outer s H _ _ E e s' un (fun b o q => Heap.get?_push_of_some _ q) rfl) (r1.append (.cons rfl .nil)) (by rw [List.length_append, List.length_append, hl] <;> rfl) ⟨_, hn, tob u2, rfl, rfl, rfl⟩
    rw [List.zip_append hl1.symm] at z
    exact z
  · subst ex eH
    exact hbody A outer s2 _ _ Q E hr' (hq p hp o ho)
end
section
variable {P : Program} {w : World} {K : PySem.W.Frag} {mg : Str → Option Value} {base : Heap} {b : Bg} {k : Nat} {x qual pv : Str} {st : Stmt} {f : Addr} {fd : FuncData} {N ps : List Str} {S : SV}
theorem fnStarN (F : Fun K x qual st f fd) (Sc : FnScope N (ps ++ [pv]) (defScope st)) {t : VS} (hlen : ∀ ds Q E, S ds Q E → ds.length = ps.length + 1) (hps : ps.length + 1 ≤ N.length)
    (hb : ∀ (kV doc pm : Value) (an : Option Addr) (cdv ct : Value) (us rest : List Value), us.length = ps.length → bindArgs (PySem.W.fnOf x qual (defArgs st) (defBody st) (defScope st) .none kV doc pm an cdv ct) ⟨us ++ rest, []⟩ = (newTuple rest >>= fun t => pure (ps.zip us ++ [(pv, t)])))
    (hbody : ∀ (cdv : Value) (A : Around) (outer : List Env) (s : Shared) (H : Hp) (E : XK), Room k (A.deeper (envOfC qual (defScope st) s.heap.objs.size f cdv)) →
      Takes (cxOf (L2.CX P w) P w K mg base N qual (defScope st) f cdv A outer s H E) (WF E) → VSs (cxOf (L2.CX P w) P w K mg base N qual (defScope st) f cdv A outer s H E) b (WF E) (defBody st) t)
    (hlaw : ∀ ds Q E, S ds Q E → t (envOf N.length ds) (fin Q E)) : FnR P w K mg base (L2.CX P w) (k + 1) f (spV b (svStarN ps.length S)) := by
  have len : ∀ vs H Q E, spV b S vs H Q E → vs.length = ps.length + 1 := fun vs H Q E ⟨Z, ds, Qd, Ed, g, r, s, _⟩ => r.length.trans (hlen ds Qd Ed s)
  obtain ⟨oc, od, kV, doc, pm, an, cdv, ct, osl, rfl, lk, hcd⟩ := F.ex
  exact (fn_starFN (sp := spV b S) lk hcd Sc StX.cxUp (hb kV doc pm an cdv ct) fun A outer s H vs Q E hr h => ⟨_, hbody cdv A outer s H E hr (takes_of rfl rfl rfl rfl), fin_link hlaw (Nat.le_trans (Nat.le_of_eq (len _ _ _ _ h)) hps) h⟩).imp fun vs H Q E h => spStarN h
end

/-! ### def f(a, .., *, k=c) -/
/-- a def's one keyword-only default -/
structure DefW (K : PySem.W.Frag) (x : Str) (st : Stmt) (kn : Str) (dv : V) : Prop where
  ex : ∃ (f D : Addr) (oc doc pm cdv ct u : Value) (od an : Option Addr) (osl : Array (Option Value)), PySem.W.nsIn K mainGlobals x = some (some (.ref f)) ∧ K.lookup f = some ⟨oc, od, .func (PySem.W.fnOf x x (defArgs st) (defBody st) (defScope st) .none (.ref D) doc pm an cdv ct), osl⟩ ∧ PySem.W.codeIn K cdv x = true ∧ PySem.W.keepIn K (.ref f) = true ∧
    PySem.W.nsIn K D kn = some (some u) ∧ RelV dv u
theorem defW {K : PySem.W.Frag} {x kn : Str} {dv : V} {st : Stmt} {f D : Addr} {oc doc pm cdv ct u : Value} {od an : Option Addr} {osl : Array (Option Value)} (a : PySem.W.nsIn K mainGlobals x = some (some (.ref f)))
    (l : K.lookup f = some ⟨oc, od, .func (PySem.W.fnOf x x (defArgs st) (defBody st) (defScope st) .none (.ref D) doc pm an cdv ct), osl⟩) (c : PySem.W.codeIn K cdv x = true) (k : PySem.W.keepIn K (.ref f) = true) (d : PySem.W.nsIn K D kn = some (some u)) (r : RelV dv u) : DefW K x st kn dv := ⟨f, D, oc, doc, pm, cdv, ct, u, od, an, osl, a, l, c, k, d, r⟩
theorem DefW.use {K : PySem.W.Frag} {x kn : Str} {dv : V} {st : Stmt} {ps : List Str} {h : Heap} {mg : Str → Option Value} (d : DefW K x st kn dv) (X : K.In h) (G : h.Ns mainGlobals mg)
    (h0 : ∀ (D : Addr) (doc pm : Value) (an : Option Addr) (cdv ct : Value) (us : List Value) (v : Value), us.length = ps.length → KwChain D [(kn, v)] (bindArgs (PySem.W.fnOf x x (defArgs st) (defBody st) (defScope st) .none (.ref D) doc pm an cdv ct) ⟨us, []⟩) ((ps ++ [kn]).zip (us ++ [v])))
    (h1 : ∀ (D : Addr) (doc pm : Value) (an : Option Addr) (cdv ct : Value) (us : List Value) (v : Value), us.length = ps.length → bindArgs (PySem.W.fnOf x x (defArgs st) (defBody st) (defScope st) .none (.ref D) doc pm an cdv ct) ⟨us, [(kn, v)]⟩ = pure ((ps ++ [kn]).zip (us ++ [v]))) :
    ∃ (f : Addr) (fd : FuncData), Fun K x x st f fd ∧ mg x = some (.ref f) ∧ PySem.W.keepIn K (.ref f) = true ∧ (∃ ds, Vals [dv] ds ∧ Binds K fd (ps ++ [kn]) ds) ∧ KBn K fd (ps ++ [kn]) ps.length [kn] (fun us ws => us ++ ws) (fun vs zs => vs ++ zs) := by
  obtain ⟨f, D, oc, doc, pm, cdv, ct, u, od, an, osl, a, l, c, k, e, r⟩ := d.ex
  refine ⟨f, _, fun_mk l c k, PySem.W.mg_of X G a, k, ?_, ⟨fun s us ws KX h2 h3 => ?_, fun r1 r2 => r1.append r2⟩⟩
  · have F : FunD K x x (defArgs st) (defBody st) (defScope st) [] [(kn, dv)] f _ := ⟨⟨oc, od, _, _, doc, pm, an, cdv, ct, osl, rfl, l, c, .inl ⟨rfl, rfl⟩, .inr ⟨D, rfl, fun q hq => by rw [List.mem_singleton.mp hq]; exact ⟨u, e, r⟩⟩⟩, k⟩
    exact F.binds0 ps.length (by simp) (by simp) fun D' doc pm an cdv ct us ks h2 h3 => by
      match ks, h3 with
      | [v], _ => exact h0 D' doc pm an cdv ct us v h2
  · match ws, h3 with
    | [v], _ => exact .of_eq (h1 D doc pm an cdv ct us v h2)
structure CalW (P : Program) (w : World) (K : PySem.W.Frag) (mg : Str → Option Value) (base : Heap) (b : Bg) (k : Nat) (x : Str) (ps : List Str) (kn : Str) (dv : PyData) (S : SV) where
  f : Addr
  fd : FuncData
  F : FnOk P w K mg base (L2.CX P w) k f fd (ps ++ [kn]) (spV b S)
  g : mg x = some (.ref f)
  kp : PySem.W.keepIn K (.ref f) = true
  b0 : ∃ v ds, Vals [v] ds ∧ Binds K fd (ps ++ [kn]) ds ∧ ∀ Z H, Rq Z H v dv
  b1 : KBn K fd (ps ++ [kn]) ps.length [kn] (fun us ws => us ++ ws) (fun vs zs => vs ++ zs)
@[simp] def svW (dv : PyData) (S : SV) : SV := fun ds Q E => S (ds ++ [.py dv]) Q E
@[simp] def vCallW (S : SV) (u : VA) (t : VT) : VT := fun ρ Q E => u ρ (fun ds => t ρ (fun d => S (ds ++ [d]) Q E) E) E
section
variable {X : Cx} {b : Bg} {W : WX} {k j : Nat} {x kn : Str} {ps : List Str} {dv : PyData} {S : SV} {e e2 : Expr} {es : List Expr} {u : VA} {t : VT} {p pos kpos : Pos}
theorem ve_calW (c : CalW X.prog X.w X.K X.mg X.base b k x ps kn dv S) (hr : Room j X.A) (tk : Takes X W) (hg : Gl X x) (ha : VAs X b W (e :: es) u) (hk : k ≤ j := by decide) (hdb : (x == ("__debug__" : Str)) = false := by decide)
    (he : starEach (e :: es) X.env = (false, eval e X.env) :: starEach es X.env := by rfl) (hpl : (backTo pos (starEach es X.env)).any (·.1) = false := by rfl) : VE X b W (.Call (.Name x p) (e :: es) [] pos) (vCall (svW dv S) u) := by
  obtain ⟨v, ds, hv, hb, hq⟩ := c.b0
  refine pe_mono (pe_callSD c.F (hr.mono hk) hg c.g c.kp hb hv (passAt tk) ha hdb he hpl) ?_
  exact fun σ H Q ⟨Zo, Z, ρ, Qd, Ed, v', q, l, m⟩ => ⟨Zo, Z, ρ, _, Ed, v', q, fun vs H1 ds x1 g1 r1 q1 => by
    have v1 := v'.ex x1 g1
    exact ⟨Z, ds ++ [D.py dv], Qd, Ed, v1.gd, r1.append (.cons (d := .py dv) (hq Z H1) .nil), q1, fun y H2 d x2 g2 r2 q2 => l y H2 d (x1.trans x2) g2 r2 q2, fun c z H2 er x2 g2 r2 q2 => m c z H2 er (x1.trans x2) g2 r2 q2⟩, m⟩
theorem run_fnNS {n : Nat} {f : Addr} {fd : FuncData} {ps ks : List Str} {sp : Sp} {E : L2.St → XK} {g : List Value → List Value → List Value} {gV : List V → List V → List V} {pins : List (Addr × Obj)} {σ : L2.St} {H : Hp} {s : Shared} {Q : VK} {us ws : List Value} {vs zs : List V}
    (F : FnOk X.prog X.w X.K X.mg X.base (L2.CX X.prog X.w) k f fd ps sp) (hr : Room k X.A) (hb : KBn X.K fd ps n ks g gV) (hx : PassesAt (L2.CX X.prog X.w) X σ (E σ))
    (I : Inv X pins σ H s) (r : Vals vs us) (rz : Vals zs ws) (l1 : vs.length = n) (l2 : zs.length = ks.length) (h : sp (gV vs zs) H Q (E σ)) : wpAny (model X.prog X.w) X.A (call (.ref f) us (ks.zip ws)) (EP X pins σ Q) X.xe s := by
  have r2 := hb.rel r rz
  refine wpAny_call (codeAny_mono (F.run X.A X.stack s H ⟨us, ks.zip ws⟩ (g us ws) (gV vs zs) Q (E σ) hr I.env0 (hb.to s us ws I.kIn (r.length.symm.trans l1) (rz.length.symm.trans l2)) r2 h) fun r s' hq => ?_)
  cases r with
  | error e => exact hx pins H s e s' I hq
  | ok fl =>
    cases fl with
    | ret u => exact I.after hq
    | next => exact False.elim hq
    | brk => exact False.elim hq
    | cont => exact False.elim hq
def tCallNS (n m : Nat) (sp : Sp) (gV : List V → List V → List V) (E : L2.St → XK) (t tk : TA) : TE := fun σ H Q => t σ H fun vs H1 => tk σ H1 fun zs H2 => vs.length = n ∧ zs.length = m ∧ sp (gV vs zs) H2 Q (E σ)
theorem pe_callNS {n : Nat} {f : Addr} {fd : FuncData} {ps ks : List Str} {sp : Sp} {E : L2.St → XK} {g : List Value → List Value → List Value} {gV : List V → List V → List V} {kws : List Keyword} {t tk : TA}
    (F : FnOk X.prog X.w X.K X.mg X.base (L2.CX X.prog X.w) k f fd ps sp) (hr : Room k X.A) (hg : Gl X x) (hm : X.mg x = some (.ref f)) (hk : PySem.W.keepIn X.K (.ref f) = true) (hb : KBn X.K fd ps n ks g gV) (hx : ∀ σ, PassesAt (L2.CX X.prog X.w) X σ (E σ))
    (ha : PA X (e :: es) t) (hkw : PK X kws tk) (hall : (backToKw pos (keywordEach kws X.env)).all (·.1.isSome) = true := by rfl) (hks : (backToKw pos (keywordEach kws X.env)).filterMap (·.1) = ks := by rfl)
    (hdb : (x == ("__debug__" : Str)) = false := by decide) (he : starEach (e :: es) X.env = (false, eval e X.env) :: starEach es X.env := by rfl)
    (hpl : ((backTo pos (starEach (e :: es) X.env)).any (·.1) || (backToKw pos (keywordEach kws X.env)).any (·.1.isNone)) = false := by rfl) :
    PE X (.Call (.Name x p) (e :: es) kws pos) (tCallNS n ks.length sp gV E t tk) := by
  refine ⟨fun pins s σ H Q I h => ?_⟩
  refine wpAny_Call_Name_kw (ld_glob I hg hm ?_ hdb)
  refine PySem.W.callWith_KW (h₀ := X.base) I.ok.mod.kin hk hall (thn (ha.run pos pins s σ H _ I h) fun us s1 ⟨vs, H1, I1, r, q⟩ => ?_) hpl he
  refine thn (hkw.run pos pins s1 σ H1 _ I1 q) fun ws s2 ⟨zs, H2, I2, rz, l1, l2, q2⟩ => ⟨I2.kIn, ?_⟩
  rw [hks]
  exact run_fnNS F hr hb (hx σ) I2 r rz l1 l2 q2
theorem ve_calWk (c : CalW X.prog X.w X.K X.mg X.base b k x ps kn dv S) (hr : Room j X.A) (tk : Takes X W) (hg : Gl X x) (ha : VAs X b W (e :: es) u) (h2 : VE X b W e2 t) (hk : k ≤ j := by decide)
    (hall : (backToKw pos (keywordEach [⟨some kn, e2, kpos⟩] X.env)).all (·.1.isSome) = true := by rfl) (hks : (backToKw pos (keywordEach [⟨some kn, e2, kpos⟩] X.env)).filterMap (·.1) = [kn] := by rfl) (hdb : (x == ("__debug__" : Str)) = false := by decide)
    (he : starEach (e :: es) X.env = (false, eval e X.env) :: starEach es X.env := by rfl) (hpl : ((backTo pos (starEach (e :: es) X.env)).any (·.1) || (backToKw pos (keywordEach [⟨some kn, e2, kpos⟩] X.env)).any (·.1.isNone)) = false := by rfl) :
    VE X b W (.Call (.Name x p) (e :: es) [⟨some kn, e2, kpos⟩] pos) (vCallW S u t) := by
  refine pe_mono (pe_callNS (n := ps.length) c.F (hr.mono hk) hg c.g c.kp c.b1 (passAt tk) ha (pk_cons h2 pk_nil) hall hks hdb he hpl) ?_
  exact fun σ H Q ⟨Zo, Z, ρ, Qd, Ed, v', q, l, m⟩ => ⟨Zo, Z, ρ, _, Ed, v', q, fun vs H1 ds x1 g1 r1 q1 => by
    have v1 := v'.ex x1 g1
    exact ⟨Zo, Z, ρ, _, Ed, v1, q1, fun y H2 d x2 g2 r2 q2 => by
      have v2 := v1.ex x2 g2
      have h : spV b S (vs ++ [y]) H2 Q (WE W σ) := ⟨Z, ds ++ [d], Qd, Ed, v2.gd, (v1.rps x2 r1).append (.cons r2 .nil), q2, fun y H3 d x3 g3 r3 q3 => l y H3 d ((x1.trans x2).trans x3) g3 r3 q3, fun c z H3 er x3 g3 r3 q3 => m c z H3 er ((x1.trans x2).trans x3) g3 r3 q3⟩
      have hl := c.F.len _ _ _ _ h
      rw [List.length_append, List.length_append] at hl
      exact ⟨Nat.add_right_cancel hl, rfl, h⟩, fun c z H2 er x2 g2 r2 q2 => m c z H2 er (x1.trans x2) g2 r2 q2⟩, m⟩
end
end VL
set_option Elab.async false
set_option linter.all false
set_option maxRecDepth 100000
set_option maxHeartbeats 4000000
/-! VL69: text.index(text) -/
namespace VL
open PySem PySem.Spec PyProof.Rows L2
@[simp] def gTIndex : D → List D → (D → Prop) → Prop
  | .py (.str a), [.py (.str b)], Q => ∃ i rest, Builtin.Str.occurrences a b 0 a.length 1 = i :: rest ∧ Q (.py (.int (i : Nat)))
  | _, _, _ => False
theorem mx_indexS {X : Cx} {b : Bg} : MetX X b (RE b) "index" isS gTIndex := fun Z H x d gd rx kd => by
  obtain ⟨z, rfl⟩ := isS_ex kd
  obtain rfl := rx.str
  refine ⟨_, ⟨"str", _, PySem.F.plainAttrs_str, PySem.F.slot_str_index, PySem.F.type_str_index, mt_sindex, ty_str z⟩, fun H' xs ds Q Qd _ gd' _ rs h k => ?_⟩
  match ds, h, rs with
  | [.py (.str c)], ⟨i, rest, e, h⟩, .cons r .nil =>
    obtain rfl := r.str
    exact ⟨z, c, i, rest, rfl, rfl, e, k _ H' (.py (.int _)) Ex.refl gd'.g (.int _) h⟩
theorem occ_as : Builtin.Str.occurrences (mkS [97, 115]) (mkS [97]) 0 (mkS [97, 115]).length 1 = [0] := by decide +kernel
theorem occ_as' : Builtin.Str.occurrences (mkS [97, 115]) (mkS [115]) 0 (mkS [97, 115]).length 1 = [1] := by decide +kernel
theorem occ_sa : Builtin.Str.occurrences (mkS [115, 97]) (mkS [97]) 0 (mkS [115, 97]).length 1 = [1] := by decide +kernel
theorem occ_sa' : Builtin.Str.occurrences (mkS [115, 97]) (mkS [115]) 0 (mkS [115, 97]).length 1 = [0] := by decide +kernel
/-! ### x is True where x may be None -/
@[simp] def gIsBn : D → D → (D → Prop) → Prop
  | .py (.bool a), .py (.bool b), Q => Q (.py (.bool (decide (a = b))))
  | .py .none, .py (.bool _), Q => Q (.py (.bool false))
  | _, _, _ => False
def rIsBn : R2 := fun x y H Q => rIsB x y H Q ∨ (x = .non ∧ ∃ b, y = .bl b ∧ Q (.bl false) H)
section
variable {X : Cx} {b : Bg} {W : WX} {e1 e2 : Expr} {t1 t2 : VT} {pos : Pos}
theorem op_isBn : OpR X (compareOp .Is) rIsBn := by
  intro pins s σ H x y v u Q I rx ry h
  rcases h with h | ⟨rfl, b, rfl, q⟩
  · exact op_isBl pins s σ H x y v u Q I rx ry h
  · cases (show v = Value.none from rx)
    cases (show u = Value.bool b from ry)
    exact wpAny_is_other rfl (fun z => by cases z) ⟨.bl false, H, I, rfl, q⟩
theorem rd_isBn : OpD b (RE b) rIsBn gIsBn := by
  intro Z H x y dx dy Q Qd gd rx ry h k
  match dx, dy, h, rx, ry with
  | .py (.bool a), .py (.bool c), h, rx, ry => exact .inl (rd_isB Z H x y _ _ Q Qd gd rx ry (by simpa using h) k)
  | .py .none, .py (.bool c), h, rx, ry =>
    have h1 := rx.q
    have h2 := ry.q
    cases h1; cases h2
    exact .inr ⟨rfl, c, rfl, k _ H (.py (.bool _)) Ex.refl gd.g (.bl _) h⟩
theorem ve_isBn (h1 : VX X b W e1 t1) (h2 : VX X b W e2 t2) : VE X b W (.Compare e1 [.Is] [e2] pos) (vBin gIsBn t1 t2) := ve_cmp op_isBn rd_isBn h1 h2 (nobehind _ (by decide) (by decide))
theorem vt_isBn (h1 : VX X b W e1 t1) (h2 : VX X b W e2 t2) : VTe X b W (.Compare e1 [.Is] [e2] pos) (vTst (vBin gIsBn t1 t2)) := vt_cmp op_isBn rd_isBn h1 h2 (nobehind _ (by decide) (by decide))
end
end VL
set_option Elab.async false
set_option linter.all false
set_option maxRecDepth 100000
set_option maxHeartbeats 4000000
namespace LawP
open PySem PySem.Spec PyProof.Rows L2 VL
def t_law_times (S_law_wind : SV) : VS :=
  (sSeq (sPar [4, 5] (mCons true (vLst vNil) (mCons false (vVar 3) mNil)))
  (sSeq (sFor (iR1 (vCons (vCal gLen (vCons (vBor 1) vNil)) vNil)) (tgName 6)
  (sSeq (sSet 5 (vCal gMin (vCons (vBin gPow (vC (.py (.int 10))) (vC (.py (.int 9)))) (vCons (vBin gAdd (vBor 5) (vCall S_law_wind (vCons (vVar 0) (vCons (vBin gAdd (vBor 2) (vC (.py (.int 1)))) vNil)))) vNil))))
  (sMut 4 gApp (vCons (vVar 5) vNil))))
  (sRet (vCal gTuple (vCons (vBor 4) vNil)))))
def t_law_bent (S_c_odd : SV) (S_law_wind : SV) : VS :=
  (sSeq (sPar [2, 3] (mCons false (vCall S_law_wind (vCons (vVar 0) (vCons (vCal gLen (vCons (vBor 1) vNil)) vNil))) (mCons false (vCall S_c_odd (vCons (vVar 0) vNil)) mNil)))
  (sSeq (sSet 4 (vLst (vCons (vBin gAdd (vBin gAdd (vSl gSl (vBor 1) oNo (oAt (vBor 2))) (vTup (vCons (vVar 3) vNil))) (vSl gSl (vBor 1) (oAt (vBin gAdd (vBor 2) (vC (.py (.int 1))))) oNo)) (vCons (vBin gAdd (vSl gSl (vBor 1) oNo (oAt (vBor 2))) (vSl gSl (vBor 1) (oAt (vBin gAdd (vBor 2) (vC (.py (.int 1))))) oNo)) (vCons (vBin gAdd (vBor 1) (vSl gSl (vBor 1) (oAt (vUn gNeg (vC (.py (.int 1))))) oNo)) (vCons (vCal gList (vCons (vBor 1) vNil)) vNil))))))
  (sRet (vBin gIx (vBin gAdd (vBor 4) (vLst (vCons (vBkA (vBor 1) (oAt (vUn gNeg (vC (.py (.int 1)))))) (vCons (vVar 3) (vCons (vBin gAdd (vBin gAdd (vSl gSl (vBor 1) oNo (oAt (vBor 2))) (vTup (vCons (vBin gAdd (vBin gPow (vC (.py (.int 10))) (vC (.py (.int 9)))) (vC (.py (.int 1)))) vNil))) (vSl gSl (vBor 1) (oAt (vBin gAdd (vBor 2) (vC (.py (.int 1))))) oNo)) vNil))))) (vCall S_law_wind (vCons (vVar 0) (vCons (vC (.py (.int 7))) vNil)))))))
def t_timed_word (S_check_times : SV) : VS :=
  (sSeq (sExpr (vCall S_check_times (vCons (vVar 0) (vCons (vVar 1) vNil))))
  (sSeq (sExpr (vCall S_check_times (vCons (vVar 0) (vCons (vVar 2) vNil))))
  (sSeq (sSet 4 (vIf (vTst (vBor 3)) (vBin gAdd (vC (.py (.str "s"))) (vC (.py (.str "a")))) (vBin gAdd (vC (.py (.str "a"))) (vC (.py (.str "s"))))))
  (sSeq (sSetN 5 (vLc [8] (iS (vBor 1)) (tgName 8) wYes (vTup (vCons (vVar 8) (vCons (vMth isS gTIndex (vBor 4) (vCons (vC (.py (.str "a"))) vNil)) vNil)))))
  (sSeq (sMut 5 gExt (vCons (vLc [8] (iS (vBor 2)) (tgName 8) wYes (vTup (vCons (vVar 8) (vCons (vMth isS gTIndex (vBor 4) (vCons (vC (.py (.str "s"))) vNil)) vNil)))) vNil))
  (sSeq (sPar [6, 7] (mCons false (vC (.py (.str ""))) (mCons false (vC (.py (.int 0))) mNil)))
  (sSeq (sFor (iS (vCal gSortedT (vCons (vBor 5) vNil))) (tgTup 2 (tgCons (tgName 8) (tgCons (tgName 9) tgNil)))
  (sSeq (sAugA 7 gAugAdd (vIf (vTst (vBin gEq (vBin gIx (vBor 4) (vBor 9)) (vC (.py (.str "a"))))) (vC (.py (.int 1))) (vUn gNeg (vC (.py (.int 1))))))
  (sSeq (sIf (vTst (vBin gLt (vBor 7) (vC (.py (.int 0)))))
  (sRaise0 "NoHistory")
  sNext)
  (sAugA 6 gAugAdd (vBin gIx (vBor 4) (vBor 9))))))
  (sRet (vVar 6)))))))))
def t_law_error (a : Addr) (d : Option Addr) (er : Er) : VS :=
  (sSeq (sSet 1 (vLst (vCons (vErrI a d er 0 ["BadTimes", "NoHistory"] "BadWord") (vCons (vErrI a d er 0 ["BadTimes", "NoHistory"] "NoPerson") (vCons (vErrI a d er 0 ["BadTimes", "NoHistory"] "BadTimes") vNil)))))
  (sSeq (sSet 1 (vBin gAdd (vBor 1) (vLst (vCons (vErrI a d er 0 ["BadTimes", "NoHistory"] "NoOrder") (vCons (vErrI a d er 0 ["BadTimes", "NoHistory"] "Impossible") (vCons (vErrI a d er 0 ["BadTimes", "NoHistory"] "NoHistory") vNil))))))
  (sSeq (sIf (wOr (vTst (vBin gNe (vMth isLi gCountB (vBor 1) (vCons (vC (.py (.bool true))) vNil)) (vC (.py (.int 1))))) (wOr (wNot (vTst (vErrI a d er 0 ["BadTimes", "NoHistory"] "ValueError"))) (vTst (vErrIT a d er 0 ["BadTimes", "NoHistory"] ["BadCount", "TooLarge"]))))
  (sRet (vLst (vCons (vC (.py (.str "other"))) vNil)))
  sNext)
  (sSeq (sIf (vTst (vBin gIx (vBor 1) (vC (.py (.int 0)))))
  (sRet (vLst (vCons (vC (.py (.str "word"))) (vCons (vErrF a d er 0 [] "error") vNil))))
  sNext)
  (sSeq (sIf (vTst (vBin gIx (vBor 1) (vC (.py (.int 1)))))
  (sRet (vLst (vCons (vC (.py (.str "person"))) (vCons (vErrF a d er 0 ["BadTimes"] "value") vNil))))
  sNext)
  (sSeq (sIf (vTst (vBin gIx (vBor 1) (vC (.py (.int 2)))))
  (sRet (vLst (vCons (vC (.py (.str "times"))) (vCons (vErrF a d er 0 ["BadTimes"] "value") vNil))))
  sNext)
  (sRet (vBin gIx (vLst (vCons (vLst (vCons (vC (.py (.str "order"))) vNil)) (vCons (vLst (vCons (vC (.py (.str "impossible"))) vNil)) (vCons (vLst (vCons (vC (.py (.str "history"))) vNil)) vNil)))) (vBin gSub (vMth isSq gIndex (vBor 1) (vCons (vC (.py (.bool true))) vNil)) (vC (.py (.int 3))))))))))))
def t_law_asked (S_timed_word : SV) (S_law_error : SE) : VS :=
  (sSeq (sSet 4 (vC (.py .none)))
  (sSeq (sTry 5 ["BadTimes", "NoHistory"] "LineError"
  (sIf (vTst (vBin (gIsN false) (vBor 3) (vC (.py .none))))
  (sSet 4 (vCall (svW (.bool false) S_timed_word) (vCons (vVar 0) (vCons (vVar 1) (vCons (vVar 2) vNil)))))
  (sSet 4 (vCallW S_timed_word (vCons (vVar 0) (vCons (vVar 1) (vCons (vVar 2) vNil))) (vVar 3))))
  (fun a d er => (sSet 4 (vCallE a d er 5 S_law_error))))
  (sRet (vVar 4))))
def t_law_due (S_c_is_times : SV) : VS :=
  (sSeq (sFor (iS (vLst (vCons (vVar 1) (vCons (vVar 2) vNil)))) (tgName 4)
  (sIf (wNot (vTst (vCall S_c_is_times (vCons (vVar 0) (vCons (vVar 4) vNil)))))
  (sRet (vLst (vCons (vC (.py (.str "times"))) (vCons (vVar 4) vNil))))
  sNext))
  (sSeq (sPar [5, 6, 7] (mCons false (vC (.py (.str ""))) (mCons false (vC (.py (.int 0))) (mCons false (vC (.py (.int 0))) mNil))))
  (sSeq (sWhile (vTst (vBin gLt (vBor 7) (vCal gLen (vCons (vBor 0) vNil))))
  (sSeq (sSet 8 (vAnd (vBin gLt (vBor 6) (vCal gLen (vCons (vBor 0) vNil))) (vBin gLe (vBin gIx (vBor 1) (vBor 6)) (vBin gIx (vBor 2) (vBor 7)))))
  (sSeq (sIf (wAnd (vTst (vBor 8)) (wAnd (vTst (vBin gEq (vBin gIx (vBor 1) (vBor 6)) (vBin gIx (vBor 2) (vBor 7)))) (vTst (vBin gIsBn (vBor 3) (vC (.py (.bool true)))))))
  (sSet 8 (vC (.py (.bool false))))
  sNext)
  (sIf (vTst (vBor 8))
  (sPar [5, 6] (mCons false (vBin gAdd (vBor 5) (vC (.py (.str "a")))) (mCons false (vBin gAdd (vBor 6) (vC (.py (.int 1)))) mNil)))
  (sIf (vTst (vBin gEq (vBor 7) (vBor 6)))
  (sRet (vLst (vCons (vC (.py (.str "history"))) vNil)))
  (sPar [5, 7] (mCons false (vBin gAdd (vBor 5) (vC (.py (.str "s")))) (mCons false (vBin gAdd (vBor 7) (vC (.py (.int 1)))) mNil))))))))
  (sRet (vVar 5)))))
def t_law (S_c_row : SV) (S_law_wind : SV) (S_law_times : SV) (S_law_bent : SV) (S_law_asked : SV) (S_law_due : SV) : VS :=
  (sSeq (sFor (iR1 (vCons (vC (.py (.int 10))) vNil)) (tgName 2)
  (sSeq (sSet 3 (vCall S_c_row (vCons (vVar 1) (vCons (vBin gIx (vLst (vCons (vC (.py (.int 40))) (vCons (vC (.py (.int 5))) (vCons (vC (.py (.int 2))) (vCons (vC (.py (.int 12))) vNil))))) (vBin gMod (vBor 2) (vC (.py (.int 4))))) vNil))))
  (sSeq (sSet 4 (vBin gIx (vLst (vCons (vC (.py (.int 1))) (vCons (vC (.py (.int 2))) (vCons (vC (.py (.int 9))) (vCons (vBin gPow (vC (.py (.int 10))) (vC (.py (.int 8)))) vNil))))) (vCall S_law_wind (vCons (vVar 1) (vCons (vC (.py (.int 4))) vNil)))))
  (sSeq (sSet 5 (vCall S_law_times (vCons (vVar 1) (vCons (vVar 3) (vCons (vVar 4) (vCons (vCall S_law_wind (vCons (vVar 1) (vCons (vC (.py (.int 3))) vNil))) vNil))))))
  (sSeq (sSet 6 (vCall S_law_times (vCons (vVar 1) (vCons (vVar 3) (vCons (vVar 4) (vCons (vBin gIx (vLst (vCons (vCall S_law_wind (vCons (vVar 1) (vCons (vC (.py (.int 4))) vNil))) (vCons (vBin gIx (vBor 5) (vUn gNeg (vC (.py (.int 1))))) vNil))) (vCall S_law_wind (vCons (vVar 1) (vCons (vC (.py (.int 2))) vNil)))) vNil))))))
  (sSeq (sSet 7 (vCal gTuple (vCons (vLc [13] (iR1 (vCons (vCal gLen (vCons (vBor 3) vNil)) vNil)) (tgName 13) wYes (vCal gMax (vCons (vBin gIx (vBor 5) (vBor 13)) (vCons (vBin gIx (vBor 6) (vBor 13)) vNil)))) vNil)))
  (sSeq (sSet 8 (vLst (vCons (vTup (vCons (vVar 5) (vCons (vVar 6) vNil))) (vCons (vTup (vCons (vVar 5) (vCons (vVar 7) vNil))) (vCons (vTup (vCons (vVar 5) (vCons (vVar 5) vNil))) (vCons (vTup (vCons (vVar 6) (vCons (vVar 5) vNil))) (vCons (vTup (vCons (vCall S_law_bent (vCons (vVar 1) (vCons (vVar 5) vNil))) (vCons (vVar 6) vNil))) vNil)))))))
  (sSeq (sSet 8 (vBin gAdd (vBor 8) (vLst (vCons (vTup (vCons (vVar 5) (vCons (vCall S_law_bent (vCons (vVar 1) (vCons (vVar 6) vNil))) vNil))) (vCons (vTup (vCons (vCall S_law_bent (vCons (vVar 1) (vCons (vVar 5) vNil))) (vCons (vCall S_law_bent (vCons (vVar 1) (vCons (vVar 6) vNil))) vNil))) vNil)))))
  (sFor (iS (vVar 8)) (tgTup 2 (tgCons (tgName 9) (tgCons (tgName 10) tgNil)))
  (sSeq (sSet 11 (vCal gRepr (vCons (vLst (vCons (vVar 3) (vCons (vVar 9) (vCons (vVar 10) vNil)))) vNil)))
  (sSeq (sFor (iS (vLst (vCons (vC (.py .none)) (vCons (vC (.py (.bool false))) (vCons (vC (.py (.bool true))) vNil))))) (tgName 12)
  (sIf (vTst (vBin gNe (vCal gRepr (vCons (vCall S_law_asked (vCons (vVar 3) (vCons (vVar 9) (vCons (vVar 10) (vCons (vVar 12) vNil))))) vNil)) (vCal gRepr (vCons (vCall S_law_due (vCons (vVar 3) (vCons (vVar 9) (vCons (vVar 10) (vCons (vVar 12) vNil))))) vNil))))
  (sRet (vC (.py (.bool false))))
  sNext))
  (sIf (vTst (vBin gNe (vCal gRepr (vCons (vLst (vCons (vVar 3) (vCons (vVar 9) (vCons (vVar 10) vNil)))) vNil)) (vBor 11)))
  (sRet (vC (.py (.bool false))))
  sNext))))))))))))
  (sRet (vC (.py (.bool true)))))
end LawP
set_option Elab.async false
set_option linter.all false
namespace VL
open PySem PySem.Spec PyProof.Rows L2 HT
@[simp] theorem atI_one {α : Type} (x y : α) (xs : List α) : atI (x :: y :: xs) 1 = some y := by have := @atI_nat _ (x :: y :: xs) 1 _ rfl; exact this
@[simp] theorem atI_two {α : Type} (x y z : α) (xs : List α) : atI (x :: y :: z :: xs) 2 = some z := by have := @atI_nat _ (x :: y :: z :: xs) 2 _ rfl; exact this
@[simp] theorem atI_three {α : Type} (x y z u : α) (xs : List α) : atI (x :: y :: z :: u :: xs) 3 = some u := by have := @atI_nat _ (x :: y :: z :: u :: xs) 3 _ rfl; exact this
end VL
namespace LawP
open PySem VL
/-! ### lists of persons -/
theorem pn_ex (ws : List Nat) (m : Option Nat) : (∃ x, x ∈ ws ∧ (pN x).eqv (oN m) = true) ↔ ∃ k, m = some k ∧ k ∈ ws := by
  constructor
  · rintro ⟨x, hx, e⟩
    cases m with
    | none => simp [pN, oN, PyData.eqv] at e
    | some k =>
      simp [pN, oN] at e
      have : x = k := by omega
      subst this
      exact ⟨_, rfl, hx⟩
  · rintro ⟨k, rfl, hk⟩
    exact ⟨k, hk, by simp [pN, oN]⟩
theorem pn_plain (ws : List Nat) : PyData.plainAll (ws.map pN) = true := by
  have : ws.map pN = (ws.map fun (n : Nat) => (n : Int)).map PyData.int := by rw [List.map_map]; rfl
  rw [this, plainAll_ints]
theorem pn_depth (ws : List Nat) : PyData.depthAll (ws.map pN) = 0 := by
  induction ws with
  | nil => rfl
  | cons w ws ih => rw [List.map_cons, depthAll_cons, ih]; rfl
theorem pn_ix {ws : List Nat} {k : Nat} (h : k ∈ ws) : ixOf (ws.map pN) (.int (k : Int)) = some (ws.idxOf k) := by
  induction ws with
  | nil => simp at h
  | cons w ws ih =>
    rw [List.map_cons, ixOf, List.idxOf_cons]
    by_cases e : w = k
    · have e1 : (pN w).eqv (.int (k : Int)) = true := by subst e; simp [pN]
      rw [if_pos e1, e]; simp
    · have e1 : ¬ (pN w).eqv (.int (k : Int)) = true := by simp [pN]; omega
      have e2 : (w == k) = false := beq_eq_false_iff_ne.mpr e
      have hk : k ∈ ws := by rcases List.mem_cons.mp h with h | h; exact absurd h.symm e; exact h
      rw [if_neg e1, ih hk, e2]; rfl
theorem on_plain (m : Option Nat) : (oN m).plain = true := by cases m <;> rfl
theorem on_depth (m : Option Nat) : (oN m).depth = 0 := by cases m <;> rfl
theorem drop_at' {α : Type} {w : List α} {k : Nat} {c : α} (hc : w[k]? = some c) : w.drop k = c :: w.drop (k + 1) := by
  have hk := (List.getElem?_eq_some_iff.mp hc).1
  rw [List.drop_eq_getElem_cons hk]
  congr 1
  exact (List.getElem?_eq_some_iff.mp hc).2
theorem eqv_pN : ∀ a b : List Nat, PyData.eqvAll (a.map pN) (b.map pN) = decide (a = b)
  | [], [] => rfl
  | [], _ :: _ => rfl
  | _ :: _, [] => rfl
  | x :: a, y :: b => by
    rw [List.map_cons, List.map_cons, PyData.eqvAll, eqv_pN a b]
    have : (pN x).eqv (pN y) = decide (x = y) := by
      simp [pN]
      rw [Bool.eq_iff_iff]
      simp
      omega
    rw [this]
    by_cases h : x = y <;> simp [h]
theorem geq_tN {a b : List Nat} {Q : D → Prop} (q : Q (.py (.bool (decide (a = b))))) : gEq (.py (tN a)) (.py (tN b)) Q := by
  cases b with
  | nil => cases a <;> simpa [gEq] using q
  | cons y b =>
    have := eqv_pN a (y :: b)
    simp [gEq, pn_plain, pn_depth, PyData.plain, PyData.plainAll, PyData.depth, PyData.depthAll, PyData.eqv] at *
    rw [this]
    exact ⟨rfl, q⟩
/-! ### what a word leads to -/
/-- the order of service -/
def ordL (row : List Int) (w : List Nat) : List Nat := servedL (stepsL row 0 [] w)
/-- the mate waits -/
def joinB (row : List Int) (ws : List Nat) (a : Nat) : Bool := match mateOf row a with
  | some m => decide (m ∈ ws)
  | none => false
/-- who joins the mate -/
def joinsL (row : List Int) : Nat → List Nat → List Nat → List Nat
  | _, _, [] => []
  | a, ws, c :: w => if c = 97 then (if joinB row ws a = true then [a] else []) ++ joinsL row (a + 1) (joinQ ws a (mateOf row a)) w else joinsL row a ws.tail w
/-- services before each arrival -/
def cntsL : Nat → List Nat → List Nat
  | _, [] => []
  | s, c :: w => if c = 97 then s :: cntsL s w else cntsL (s + 1) w
theorem joinsL_a (row : List Int) (a : Nat) (ws w : List Nat) : joinsL row a ws (97 :: w) = (if joinB row ws a = true then [a] else []) ++ joinsL row (a + 1) (joinQ ws a (mateOf row a)) w := rfl
theorem joinsL_s (row : List Int) (a : Nat) (ws w : List Nat) : joinsL row a ws (115 :: w) = joinsL row a ws.tail w := rfl
theorem cntsL_a (s : Nat) (w : List Nat) : cntsL s (97 :: w) = s :: cntsL s w := rfl
theorem cntsL_s (s : Nat) (w : List Nat) : cntsL s (115 :: w) = cntsL (s + 1) w := rfl
theorem servedL_a (x : Nat) (y : List Nat) (L : List (Nat × Nat × List Nat)) : servedL ((97, x, y) :: L) = servedL L := by simp [servedL]
theorem servedL_s (x : Nat) (y : List Nat) (L : List (Nat × Nat × List Nat)) : servedL ((115, x, y) :: L) = x :: servedL L := by simp [servedL]
theorem joinQ_perm (ws : List Nat) (a : Nat) (m : Option Nat) : (joinQ ws a m).Perm (a :: ws) := by
  unfold joinQ insAt
  refine List.perm_middle.trans ?_
  rw [List.take_append_drop]
theorem goodW_okP {n : Nat} : ∀ {w : List Nat} {a s : Nat}, goodW n a s w → okP n a s w
  | [], _, _, _ => trivial
  | c :: w, a, s, h => by
    rcases h with ⟨e, ha, h⟩ | ⟨e, ha, h⟩
    · exact .inl ⟨e, ha, goodW_okP h⟩
    · exact .inr ⟨e, ha, goodW_okP h⟩
theorem served_perm {row : List Int} {n : Nat} : ∀ {w : List Nat} {a s : Nat} {ws : List Nat}, goodW n a s w → ws.length + s = a → a ≤ n → (servedL (stepsL row a ws w)).Perm (ws ++ List.range' a (n - a))
  | [], a, s, ws, ⟨h1, h2⟩, e, h3 => by
    have : ws = [] := List.length_eq_zero_iff.mp (by omega)
    subst this h1
    simp [stepsL, servedL]
  | c :: w, a, s, ws, h, e, h3 => by
    rcases h with ⟨rfl, ha, h⟩ | ⟨rfl, ha, h⟩
    · rw [stepsL_a, servedL_a]
      have ih := served_perm (row := row) (ws := joinQ ws a (mateOf row a)) h (by rw [joinQ_len]; omega) ha
      refine ih.trans ?_
      have e2 : n - a = (n - (a + 1)) + 1 := by omega
      rw [e2, List.range'_succ]
      refine ((joinQ_perm ws a _).append_right _).trans ?_
      rw [List.cons_append]
      exact List.perm_middle.symm
    · cases ws with
      | nil => simp at e; omega
      | cons x ws =>
        rw [stepsL_s, servedL_s, List.cons_append]
        exact (served_perm h (by simp at e; omega) h3).cons x
theorem ordL_perm {row : List Int} {w : List Nat} (h : HistW row.length w) : (ordL row w).Perm (List.range row.length) := by
  have := served_perm (row := row) (ws := []) h rfl (Nat.zero_le _)
  rwa [List.nil_append, Nat.sub_zero, ← List.range_eq_range'] at this
end LawP
set_option Elab.async false
set_option linter.all false
set_option maxRecDepth 100000
set_option maxHeartbeats 4000000
namespace LawP
open PySem PySem.Spec PyProof.Rows L2 VL
/-! ### arrivals and services, merged by their times -/
def mrg (fl : Bool) : List Int → List Int → List (Int × Bool)
  | [], ss => ss.map fun s => (s, false)
  | t :: ts, [] => (t :: ts).map fun t => (t, true)
  | t :: ts, s :: ss => if t < s ∨ (t = s ∧ fl = false) then (t, true) :: mrg fl ts (s :: ss) else (s, false) :: mrg fl (t :: ts) ss
termination_by ts ss => ts.length + ss.length
theorem mrg_nil (fl : Bool) (ss : List Int) : mrg fl [] ss = ss.map fun s => (s, false) := by rw [mrg]
theorem mrg_nil2 (fl : Bool) (ts : List Int) : mrg fl ts [] = ts.map fun t => (t, true) := by cases ts <;> rw [mrg] <;> rfl
theorem mrg_a {fl : Bool} {t s : Int} {ts ss : List Int} (h : t < s ∨ (t = s ∧ fl = false)) : mrg fl (t :: ts) (s :: ss) = (t, true) :: mrg fl ts (s :: ss) := by rw [mrg, if_pos h]
theorem mrg_s {fl : Bool} {t s : Int} {ts ss : List Int} (h : ¬ (t < s ∨ (t = s ∧ fl = false))) : mrg fl (t :: ts) (s :: ss) = (s, false) :: mrg fl (t :: ts) ss := by rw [mrg, if_neg h]
def allM (ts ss : List Int) : List (Int × Bool) := (ts.map fun t => (t, true)) ++ ss.map fun s => (s, false)
theorem mrg_perm (fl : Bool) : ∀ (n : Nat) (ts ss : List Int), ts.length + ss.length = n → (mrg fl ts ss).Perm (allM ts ss)
  | _, [], ss, _ => by rw [mrg_nil]; exact List.Perm.refl _
  | _, t :: ts, [], _ => by rw [mrg_nil2]; unfold allM; simp
  | 0, t :: ts, s :: ss, h => by simp at h
  | n + 1, t :: ts, s :: ss, h => by
    simp only [List.length_cons] at h
    by_cases c : t < s ∨ (t = s ∧ fl = false)
    · rw [mrg_a c]
      exact (mrg_perm fl n ts (s :: ss) (by simp only [List.length_cons]; omega)).cons _
    · rw [mrg_s c]
      refine ((mrg_perm fl n (t :: ts) ss (by simp only [List.length_cons]; omega)).cons _).trans ?_
      unfold allM
      rw [List.map_cons (l := ss)]
      exact List.perm_middle.symm
def rk (fl b : Bool) : Int := if b = fl then 1 else 0
def encM (fl : Bool) (x : Int × Bool) : List Int := [x.1, rk fl x.2]
theorem lex2 (x y r q : Int) : lexL [y, q] [x, r] = false ↔ x < y ∨ (x = y ∧ r ≤ q) := by
  unfold lexL
  by_cases e : y = x
  · subst e
    rw [if_pos rfl]
    unfold lexL
    by_cases e2 : q = r
    · subst e2
      rw [if_pos rfl]
      simp [lexL]
    · rw [if_neg e2]
      simp only [decide_eq_false_iff_not]
      constructor
      · intro h; right; exact ⟨trivial, by omega⟩
      · rintro (h | ⟨_, h⟩) <;> omega
  · rw [if_neg e]
    simp only [decide_eq_false_iff_not]
    omega
theorem mrg_sorted (fl : Bool) : ∀ (n : Nat) (ts ss : List Int), ts.length + ss.length = n → ts.Pairwise (· ≤ ·) → ss.Pairwise (· ≤ ·) → (mrg fl ts ss).Pairwise fun a b => lexL (encM fl b) (encM fl a) = false
  | _, [], ss, _, _, h2 => by
    rw [mrg_nil, List.pairwise_map]
    exact h2.imp fun {a b} h => by rw [encM, encM, lex2]; show a < b ∨ (a = b ∧ rk fl false ≤ rk fl false); omega
  | _, t :: ts, [], _, h1, _ => by
    rw [mrg_nil2, List.pairwise_map]
    exact h1.imp fun {a b} h => by rw [encM, encM, lex2]; show a < b ∨ (a = b ∧ rk fl true ≤ rk fl true); omega
  | 0, t :: ts, s :: ss, h, _, _ => by simp at h
  | n + 1, t :: ts, s :: ss, h, h1, h2 => by
    simp only [List.length_cons] at h
    have h1' := List.pairwise_cons.mp h1
    have h2' := List.pairwise_cons.mp h2
    by_cases c : t < s ∨ (t = s ∧ fl = false)
    · rw [mrg_a c]
      refine List.pairwise_cons.mpr ⟨fun y hy => ?_, mrg_sorted fl n ts (s :: ss) (by simp only [List.length_cons]; omega) h1'.2 h2⟩
      have hy := (mrg_perm fl _ ts (s :: ss) rfl).mem_iff.mp hy
      rw [encM, encM, lex2]
      rcases List.mem_append.mp hy with hy | hy
      · obtain ⟨u, hu, rfl⟩ := List.mem_map.mp hy
        have := h1'.1 u hu
        show t < u ∨ (t = u ∧ rk fl true ≤ rk fl true)
        omega
      · obtain ⟨u, hu, rfl⟩ := List.mem_map.mp hy
        show t < u ∨ (t = u ∧ rk fl true ≤ rk fl false)
        have hs : s ≤ u := by
          rcases List.mem_cons.mp hu with rfl | hu
          · exact Int.le_refl _
          · exact h2'.1 u hu
        rcases c with c | ⟨c, rfl⟩
        · left; omega
        · have : rk false true ≤ rk false false := by decide
          omega
    · rw [mrg_s c]
      refine List.pairwise_cons.mpr ⟨fun y hy => ?_, mrg_sorted fl n (t :: ts) ss (by simp only [List.length_cons]; omega) h1 h2'.2⟩
      have hy := (mrg_perm fl _ (t :: ts) ss rfl).mem_iff.mp hy
      rw [encM, encM, lex2]
      rcases List.mem_append.mp hy with hy | hy
      · obtain ⟨u, hu, rfl⟩ := List.mem_map.mp hy
        show s < u ∨ (s = u ∧ rk fl false ≤ rk fl true)
        have hs : t ≤ u := by
          rcases List.mem_cons.mp hu with rfl | hu
          · exact Int.le_refl _
          · exact h1'.1 u hu
        cases fl with
        | false =>
          left
          have : ¬ t = s := fun e => c (.inr ⟨e, rfl⟩)
          have : ¬ t < s := fun e => c (.inl e)
          omega
        | true =>
          have : rk true false ≤ rk true true := by decide
          have : ¬ t < s := fun e => c (.inl e)
          omega
      · obtain ⟨u, hu, rfl⟩ := List.mem_map.mp hy
        have := h2'.1 u hu
        show s < u ∨ (s = u ∧ rk fl false ≤ rk fl false)
        omega
theorem mrg_sort (fl : Bool) {ts ss : List Int} (h1 : ts.Pairwise (· ≤ ·)) (h2 : ss.Pairwise (· ≤ ·)) : sortT ((allM ts ss).map (encM fl)) = (mrg fl ts ss).map (encM fl) :=
  (sortT_eq ((mrg_perm fl _ ts ss rfl).map _) (List.pairwise_map.mpr (mrg_sorted fl _ ts ss rfl h1 h2))).symm
/-- the word, if nobody is served who is not there; n persons wait -/
def scanM : Nat → List (Int × Bool) → Option (List Nat)
  | _, [] => some []
  | n, (_, true) :: r => (scanM (n + 1) r).map (97 :: ·)
  | 0, (_, false) :: _ => none
  | n + 1, (_, false) :: r => (scanM n r).map (115 :: ·)
theorem scanM_len : ∀ {l : List (Int × Bool)} {n : Nat} {w : List Nat}, scanM n l = some w → w.length = l.length ∧ ∀ c ∈ w, c = 97 ∨ c = 115
  | [], n, w, h => by cases n <;> (simp [scanM] at h; subst h; simp)
  | (_, true) :: r, n, w, h => by
    cases n <;> {
      simp only [scanM, Option.map_eq_some_iff] at h
      obtain ⟨v, h, rfl⟩ := h
      obtain ⟨h1, h2⟩ := scanM_len h
      refine ⟨by simp [h1], fun c hc => ?_⟩
      rcases List.mem_cons.mp hc with rfl | hc
      · exact .inl rfl
      · exact h2 c hc }
  | (_, false) :: r, 0, w, h => by simp [scanM] at h
  | (_, false) :: r, n + 1, w, h => by
    simp only [scanM, Option.map_eq_some_iff] at h
    obtain ⟨v, h, rfl⟩ := h
    obtain ⟨h1, h2⟩ := scanM_len h
    refine ⟨by simp [h1], fun c hc => ?_⟩
    rcases List.mem_cons.mp hc with rfl | hc
    · exact .inr rfl
    · exact h2 c hc
theorem scanM_a {n : Nat} {t : Int} {r : List (Int × Bool)} : scanM n ((t, true) :: r) = (scanM (n + 1) r).map (97 :: ·) := by cases n <;> rfl
def outT (fl : Bool) (ts ss : List Int) : Option (List Nat) := scanM 0 (mrg fl ts ss)
/-- what is done so far: w; the rest: r -/
def midM (o : Option (List Nat)) (w : List Nat) (n : Nat) (r : List (Int × Bool)) : Prop := o = (scanM n r).map (w ++ ·)
theorem midM.a {o : Option (List Nat)} {w : List Nat} {n : Nat} {t : Int} {r : List (Int × Bool)} (h : midM o w n ((t, true) :: r)) : midM o (w ++ [97]) (n + 1) r := by
  unfold midM at h ⊢
  rw [h, scanM_a, Option.map_map]
  congr 1
  funext v
  simp
theorem midM.s {o : Option (List Nat)} {w : List Nat} {n : Nat} {t : Int} {r : List (Int × Bool)} (h : midM o w (n + 1) ((t, false) :: r)) : midM o (w ++ [115]) n r := by
  unfold midM at h ⊢
  rw [h, scanM, Option.map_map]
  congr 1
  funext v
  simp
theorem midM.no {o : Option (List Nat)} {w : List Nat} {t : Int} {r : List (Int × Bool)} (h : midM o w 0 ((t, false) :: r)) : o = none := h
theorem midM.fin {o : Option (List Nat)} {w : List Nat} {n : Nat} (h : midM o w n []) : o = some w := by
  unfold midM at h
  rw [h]
  cases n <;> simp [scanM]
end LawP
set_option Elab.async false
set_option linter.all false
set_option maxRecDepth 100000
set_option maxHeartbeats 4000000
namespace LawP
open PySem PySem.Spec PyProof.Rows L2 VL
def longT (p : PyData) : Prop := ∀ xs, p = .tuple xs → xs.length ≤ 1000
@[simp] def S_timed_word : SV := fun ds Q E => ∃ (row : List Int) (p q : PyData) (fl : Bool), ds = [.py (tI row), .py p, .py q, .py (.bool fl)] ∧ row.length ≤ 40 ∧ longT p ∧ longT q ∧
  (¬ IsTm row.length p → E ⟨"BadTimes", [("value", p)]⟩) ∧ (IsTm row.length p → ¬ IsTm row.length q → E ⟨"BadTimes", [("value", q)]⟩) ∧
  ∀ ts ss, p = tI ts → q = tI ss → IsTm row.length p → IsTm row.length q → (outT fl ts ss = none → E ⟨"NoHistory", []⟩) ∧ ∀ w, outT fl ts ss = some w → Q (.py (.str (mkS w)))
theorem l_timed_word : ∀ ds Q E, S_timed_word ds Q E → t_timed_word S_check_times (envOf 10 ds) (fin Q E) := by
  rintro ds Q E ⟨row, p, q, fl, rfl, hl, hp, hq, q1, q2, q3⟩
  simp [t_timed_word, -S_check_times, -lcGo, -forGo]
  refine ⟨row, p, rfl, hp, fun tp => ⟨row, q, rfl, hq, fun tq => ?_, fun h => q2 tp h⟩, q1⟩
  obtain ⟨ts, rfl, t1, t2, t3⟩ := id tp
  obtain ⟨ss, rfl, s1, s2, s3⟩ := id tq
  have q := q3 ts ss rfl rfl tp tq
  clear q1 q2 q3 hp hq
  have body : ∀ (fl : Bool) (Ls : List PyData) (lt : Str), lt = (if fl = true then mkS [115, 97] else mkS [97, 115]) → (outT fl ts ss = none → E ⟨"NoHistory", []⟩) → (∀ w, outT fl ts ss = some w → Q (.py (.str (mkS w)))) →
      forGo (tgTup 2 (tgCons (tgName 8) (tgCons (tgName 9) tgNil))) (sSeq (sAugA 7 gAugAdd (vIf (vTst (vBin gEq (vBin gIx (vBor 4) (vBor 9)) (vC (.py (.str (mkS [97])))))) (vC (.py (.int 1))) (vUn gNeg (vC (.py (.int 1))))))
        (sSeq (sIf (vTst (vBin gLt (vBor 7) (vC (.py (.int 0))))) (sRaise0 "NoHistory") sNext) (sAugA 6 gAugAdd (vBin gIx (vBor 4) (vBor 9)))))
        (List.map (D.py ∘ tI) ((mrg fl ts ss).map (encM fl)))
        [.shr (.py (tI row)), .shr (.py (tI ts)), .shr (.py (tI ss)), .shr (.py (.bool fl)), .shr (.py (.str lt)), .own (.py (.list Ls)), .shr (.py (.str (mkS []))), .shr (.py (.int 0)), .un, .un]
        { nx := fun ρ' => ∃ d, ρ'[6]? = some (Slot.shr d) ∧ Q d, rt := Q, bk := fun x => False, ct := fun x => False, ex := fun x => E } := by
    intro fl Ls lt elt e1 e2
    have ln : (mrg fl ts ss).length ≤ 80 := by
      rw [(mrg_perm fl _ ts ss rfl).length_eq]
      simp [allM]; omega
    rw [← List.map_map, List.map_map (g := tI)]
    refine for_enc (tI ∘ encM fl) (fun i ρ => ∃ (w : List Nat) (n : Nat) (y z : VL.Slot), ρ = [.shr (.py (tI row)), .shr (.py (tI ts)), .shr (.py (tI ss)), .shr (.py (.bool fl)), .shr (.py (.str lt)), .own (.py (.list Ls)), .shr (.py (.str (mkS w))), .shr (.py (.int (n : Nat))), y, z] ∧ w.length = i ∧ midM (outT fl ts ss) w n ((mrg fl ts ss).drop i)) ⟨[], 0, _, _, rfl, rfl, by unfold midM outT; simp⟩ (fun i x ρ hx iv nx ct hn => ?_) (fun ρ iv => ?_)
    · obtain ⟨w, n, y, z, rfl, h1, h2⟩ := iv
      have hi : i < (mrg fl ts ss).length := (List.getElem?_eq_some_iff.mp hx).1
      have hx' : (mrg fl ts ss)[i] = x := (List.getElem?_eq_some_iff.mp hx).2
      rw [List.drop_eq_getElem_cons hi, hx'] at h2
      obtain ⟨t, k⟩ := x
      subst elt
      cases fl <;> cases k <;> simp [encM, rk, tI]
      · cases n with
        | zero => exact e1 h2.no
        | succ n =>
          rw [if_neg (by omega)]
          have en : ((n + 1 : Nat) : Int) + -1 = (n : Int) := by omega
          rw [en]
          exact ⟨by omega, (hn _ ⟨w ++ [115], n, _, _, rfl, by simp [h1], h2.s⟩).1⟩
      · rw [if_neg (by omega)]
        exact ⟨by omega, (hn _ ⟨w ++ [97], n + 1, _, _, rfl, by simp [h1], h2.a⟩).1⟩
      · cases n with
        | zero => exact e1 h2.no
        | succ n =>
          rw [if_neg (by omega)]
          have en : ((n + 1 : Nat) : Int) + -1 = (n : Int) := by omega
          rw [en]
          exact ⟨by omega, (hn _ ⟨w ++ [115], n, _, _, rfl, by simp [h1], h2.s⟩).1⟩
      · rw [if_neg (by omega)]
        exact ⟨by omega, (hn _ ⟨w ++ [97], n + 1, _, _, rfl, by simp [h1], h2.a⟩).1⟩
    · obtain ⟨w, n, y, z, rfl, h1, h2⟩ := iv
      simp at h2
      simp
      exact e2 w h2.fin
  have ext : (allM ts ss).length < 16777216 := by simp [allM]; omega
  cases fl with
  | false =>
    simp [-lcGo, -forGo]
    refine lc_encM' PyData.int (fun t => tI (encM false (t, true))) (fun i x hx k k1 => ?_) (by omega) ?_
    · simp [lcStep]
      exact ⟨_, ⟨_, occ_as⟩, k1⟩
    · refine ⟨_, rfl, lc_encM' PyData.int (fun t => tI (encM false (t, false))) (fun i x hx k k1 => ?_) (by omega) ?_⟩
      · simp [lcStep]
        exact ⟨_, ⟨_, occ_as'⟩, k1⟩
      · have el : ts.map (fun t => tI (encM false (t, true))) ++ ss.map (fun t => tI (encM false (t, false))) = ((allM ts ss).map (encM false)).map tI := by simp [allM, List.map_map, Function.comp_def]
        show _ ∧ _
        refine ⟨by simp; omega, (allM ts ss).map (encM false), el, ?_, ?_⟩
        · intro l hl
          obtain ⟨x, _, rfl⟩ := List.mem_map.mp hl
          simp [encM]
        rw [mrg_sort false t3 s3]
        exact body false _ _ rfl q.1 q.2
  | true =>
    simp [-lcGo, -forGo]
    refine lc_encM' PyData.int (fun t => tI (encM true (t, true))) (fun i x hx k k1 => ?_) (by omega) ?_
    · simp [lcStep]
      exact ⟨_, ⟨_, occ_sa⟩, k1⟩
    · refine ⟨_, rfl, lc_encM' PyData.int (fun t => tI (encM true (t, false))) (fun i x hx k k1 => ?_) (by omega) ?_⟩
      · simp [lcStep]
        exact ⟨_, ⟨_, occ_sa'⟩, k1⟩
      · have el : ts.map (fun t => tI (encM true (t, true))) ++ ss.map (fun t => tI (encM true (t, false))) = ((allM ts ss).map (encM true)).map tI := by simp [allM, List.map_map, Function.comp_def]
        show _ ∧ _
        refine ⟨by simp; omega, (allM ts ss).map (encM true), el, ?_, ?_⟩
        · intro l hl
          obtain ⟨x, _, rfl⟩ := List.mem_map.mp hl
          simp [encM]
        rw [mrg_sort true t3 s3]
        exact body true _ _ rfl q.1 q.2
/-! ### what is asked of an error -/
@[simp] def S_law_error : SE := fun er Q => (∃ p, er = ⟨"BadTimes", [("value", p)]⟩ ∧ Q (.py (.list [.str "times", p]))) ∨ (er = ⟨"NoHistory", []⟩ ∧ Q (.py (.list [.str "history"])))
theorem l_law_error : ∀ a d er Q E, S_law_error er Q → t_law_error a d er (envOf 2 [.err a d er.n er.fs]) (fin Q E) := by
  rintro a d er Q E (⟨p, rfl, q⟩ | ⟨rfl, q⟩)
  · have e1 : errSub "BadTimes" "BadWord" = false := by decide +kernel
    have e2 : errSub "BadTimes" "NoPerson" = false := by decide +kernel
    have e3 : errSub "BadTimes" "BadTimes" = true := by decide +kernel
    have e4 : errSub "BadTimes" "NoOrder" = false := by decide +kernel
    have e5 : errSub "BadTimes" "Impossible" = false := by decide +kernel
    have e6 : errSub "BadTimes" "NoHistory" = false := by decide +kernel
    have e7 : errSub "BadTimes" "ValueError" = true := by decide +kernel
    have e8 : errSub "BadTimes" "BadCount" = false := by decide +kernel
    have e9 : errSub "BadTimes" "TooLarge" = false := by decide +kernel
    simp [t_law_error, e1, e2, e3, e4, e5, e6, e7, e8, e9]
    refine ⟨_, allB_mk [false, false, true, false, false, false], ?_⟩
    simp [atI, ixN]
    exact q
  · have e1 : errSub "NoHistory" "BadWord" = false := by decide +kernel
    have e2 : errSub "NoHistory" "NoPerson" = false := by decide +kernel
    have e3 : errSub "NoHistory" "BadTimes" = false := by decide +kernel
    have e4 : errSub "NoHistory" "NoOrder" = false := by decide +kernel
    have e5 : errSub "NoHistory" "Impossible" = false := by decide +kernel
    have e6 : errSub "NoHistory" "NoHistory" = true := by decide +kernel
    have e7 : errSub "NoHistory" "ValueError" = true := by decide +kernel
    have e8 : errSub "NoHistory" "BadCount" = false := by decide +kernel
    have e9 : errSub "NoHistory" "TooLarge" = false := by decide +kernel
    simp [t_law_error, e1, e2, e3, e4, e5, e6, e7, e8, e9]
    refine ⟨_, allB_mk [false, false, false, false, false, true], ?_⟩
    have ei : ixOf [PyData.bool false, .bool false, .bool false, .bool false, .bool false, .bool true] (.bool true) = some 5 := by decide +kernel
    simp [atI, ixN, PyData.plainAll, PyData.plain, PyData.depth, ei]
    exact q
def dueT (row : List Int) (p q : PyData) (fl : Bool) (Q : D → Prop) : Prop := (¬ IsTm row.length p → Q (.py (.list [.str "times", p]))) ∧ (IsTm row.length p → ¬ IsTm row.length q → Q (.py (.list [.str "times", q]))) ∧
  ∀ ts ss, p = tI ts → q = tI ss → IsTm row.length p → IsTm row.length q → (outT fl ts ss = none → Q (.py (.list [.str "history"]))) ∧ ∀ w, outT fl ts ss = some w → Q (.py (.str (mkS w)))
def flB : PyData → Bool
  | .bool b => b
  | _ => false
@[simp] def S_law_asked : SV := fun ds Q _ => ∃ (row : List Int) (p q f : PyData), ds = [.py (tI row), .py p, .py q, .py f] ∧ row.length ≤ 40 ∧ longT p ∧ longT q ∧ (f = .none ∨ ∃ b, f = .bool b) ∧ dueT row p q (flB f) Q
theorem l_law_asked : ∀ ds Q E, S_law_asked ds Q E → t_law_asked S_timed_word S_law_error (envOf 6 ds) (fin Q E) := by
  rintro ds Q E ⟨row, p, q, f, rfl, hl, hp, hq, hf, q1, q2, q3⟩
  have eL : errSub "BadTimes" "LineError" = true := by decide +kernel
  have eN : errSub "NoHistory" "LineError" = true := by decide +kernel
  rcases hf with rfl | ⟨b, rfl⟩
  · simp [t_law_asked, -S_timed_word, -S_law_error]
    refine ⟨row, p, q, false, rfl, hl, hp, hq, fun h => ⟨.inl rfl, ?_⟩, fun h1 h2 => ⟨.inl rfl, ?_⟩, fun ts ss e1 e2 h1 h2 => ⟨fun h => ⟨.inr rfl, ?_⟩, fun w h => (q3 ts ss e1 e2 h1 h2).2 w h⟩⟩
    · rw [if_pos eL]; exact .inl ⟨p, rfl, q1 h⟩
    · rw [if_pos eL]; exact .inl ⟨q, rfl, q2 h1 h2⟩
    · rw [if_pos eN]; exact .inr ⟨rfl, (q3 ts ss e1 e2 h1 h2).1 h⟩
  · simp [t_law_asked, -S_timed_word, -S_law_error]
    refine ⟨row, p, q, b, rfl, hl, hp, hq, fun h => ⟨.inl rfl, ?_⟩, fun h1 h2 => ⟨.inl rfl, ?_⟩, fun ts ss e1 e2 h1 h2 => ⟨fun h => ⟨.inr rfl, ?_⟩, fun w h => (q3 ts ss e1 e2 h1 h2).2 w h⟩⟩
    · rw [if_pos eL]; exact .inl ⟨p, rfl, q1 h⟩
    · rw [if_pos eL]; exact .inl ⟨q, rfl, q2 h1 h2⟩
    · rw [if_pos eN]; exact .inr ⟨rfl, (q3 ts ss e1 e2 h1 h2).1 h⟩
@[simp] def S_law_due : SV := S_law_asked
theorem l_law_due : ∀ ds Q E, S_law_due ds Q E → t_law_due S_c_is_times (envOf 9 ds) (fin Q E) := by
  rintro ds Q E ⟨row, p, q, f, rfl, hl, hp, hq, hf, q1, q2, q3⟩
  simp [t_law_due, -S_c_is_times]
  refine ⟨row, p, rfl, hp, fun k hk => ?_⟩
  cases k with
  | false => exact q1 fun h => by have := hk.mpr h; cases this
  | true =>
    have tp := hk.mp rfl
    simp [-S_c_is_times]
    refine ⟨row, q, rfl, hq, fun k hk => ?_⟩
    cases k with
    | false => exact q2 tp fun h => by have := hk.mpr h; cases this
    | true =>
      have tq := hk.mp rfl
      obtain ⟨ts, rfl, t1, t2, t3⟩ := id tp
      obtain ⟨ss, rfl, s1, s2, s3⟩ := id tq
      have q := q3 ts ss rfl rfl tp tq
      clear q1 q2 q3 hp hq hk
      have gt : ∀ a, a < row.length → (ts.map PyData.int)[a]? = some (.int (ts.getD a 0)) := fun a ha => by
        rw [List.getElem?_map, List.getD_eq_getElem?_getD, List.getElem?_eq_getElem (by omega)]; rfl
      have gs : ∀ a, a < row.length → (ss.map PyData.int)[a]? = some (.int (ss.getD a 0)) := fun a ha => by
        rw [List.getElem?_map, List.getD_eq_getElem?_getD, List.getElem?_eq_getElem (by omega)]; rfl
      have dt : ∀ a, a < row.length → ts.drop a = ts.getD a 0 :: ts.drop (a + 1) := fun a ha => by
        rw [List.drop_eq_getElem_cons (by omega), List.getD_eq_getElem?_getD, List.getElem?_eq_getElem (by omega)]; rfl
      have ds : ∀ a, a < row.length → ss.drop a = ss.getD a 0 :: ss.drop (a + 1) := fun a ha => by
        rw [List.drop_eq_getElem_cons (by omega), List.getD_eq_getElem?_getD, List.getElem?_eq_getElem (by omega)]; rfl
      simp
      refine ⟨fun m ρ => ∃ (w : List Nat) (c v : Nat) (z : VL.Slot), ρ = [.shr (.py (tI row)), .shr (.py (tI ts)), .shr (.py (tI ss)), .shr (.py f), .shr (.py (tI ss)), .shr (.py (.str (mkS w))), .shr (.py (.int (c : Nat))), .shr (.py (.int (v : Nat))), z] ∧
        v ≤ c ∧ c ≤ row.length ∧ w.length = c + v ∧ m = 2 * row.length - c - v ∧ midM (outT (flB f) ts ss) w (c - v) (mrg (flB f) (ts.drop c) (ss.drop v)), ⟨_, [], 0, 0, _, rfl, by omega, by omega, rfl, rfl, by unfold midM outT; simp⟩, ?_⟩
      rintro m ρ ⟨w, c, v, z, rfl, h1, h2, h3, h4, h5⟩
      simp
      by_cases hv : v < row.length
      · rw [if_pos hv]
        have d2 := ds v hv
        have serve : (∃ t, mrg (flB f) (ts.drop c) (ss.drop v) = (t, false) :: mrg (flB f) (ts.drop c) (ss.drop (v + 1))) → (v = c → Q (.py (.list [.str "history"]))) ∧ (v ≠ c → w.length ≤ 16777215 ∧ ∃ m', m' < m ∧ ∃ (w' : List Nat) (c' v' : Nat), (w ++ [115] = w' ∧ (c : Int) = c' ∧ (v : Int) + 1 = v') ∧
            v' ≤ c' ∧ c' ≤ row.length ∧ w'.length = c' + v' ∧ m' = 2 * row.length - c' - v' ∧ midM (outT (flB f) ts ss) w' (c' - v') (mrg (flB f) (ts.drop c') (ss.drop v'))) := fun ⟨s, es⟩ => by
          rw [es] at h5
          refine ⟨fun e => ?_, fun e => ?_⟩
          · subst e
            rw [Nat.sub_self] at h5
            exact q.1 h5.no
          · obtain ⟨k, hk⟩ : ∃ k, c - v = k + 1 := ⟨c - v - 1, by omega⟩
            rw [hk] at h5
            refine ⟨by omega, _, ?_, w ++ [115], c, v + 1, ⟨rfl, rfl, by push_cast; rfl⟩, by omega, h2, by simp; omega, rfl, ?_⟩
            · omega
            · rw [show c - (v + 1) = k by omega]
              exact h5.s
        have arrive : c < row.length → (∃ t, mrg (flB f) (ts.drop c) (ss.drop v) = (t, true) :: mrg (flB f) (ts.drop (c + 1)) (ss.drop v)) → w.length ≤ 16777215 ∧ ∃ m', m' < m ∧ ∃ (w' : List Nat) (c' v' : Nat), (w ++ [97] = w' ∧ (c : Int) + 1 = c' ∧ (v : Int) = v') ∧
            v' ≤ c' ∧ c' ≤ row.length ∧ w'.length = c' + v' ∧ m' = 2 * row.length - c' - v' ∧ midM (outT (flB f) ts ss) w' (c' - v') (mrg (flB f) (ts.drop c') (ss.drop v')) := fun hc ⟨s, es⟩ => by
          rw [es] at h5
          refine ⟨by omega, _, ?_, w ++ [97], c + 1, v, ⟨rfl, by push_cast; rfl, rfl⟩, by omega, by omega, by simp; omega, rfl, ?_⟩
          · omega
          · rw [show c + 1 - v = c - v + 1 by omega]
            exact h5.a
        by_cases hc : c < row.length
        · have d1 := dt c hc
          rw [if_pos hc]
          refine ⟨_, atI_nat (gt c hc), _, atI_nat (gs v hv), ?_⟩
          have arrive := arrive hc
          rw [d1, d2] at arrive serve
          have g1 := atI_nat (gt c hc)
          have g2 := atI_nat (gs v hv)
          generalize ts.getD c 0 = t at arrive serve g1 g2 ⊢
          generalize ss.getD v 0 = s at arrive serve g1 g2 ⊢
          have A : (t < s ∨ (t = s ∧ flB f = false)) → _ := fun h => arrive ⟨t, mrg_a h⟩
          have B : ¬ (t < s ∨ (t = s ∧ flB f = false)) → _ := fun h => serve ⟨s, mrg_s h⟩
          clear arrive serve
          simp
          by_cases le : t ≤ s
          · simp [le]
            by_cases eq : t = s
            · subst eq
              rcases hf with rfl | ⟨k, rfl⟩
              · simp [g1, g2]
                exact A (.inr ⟨rfl, rfl⟩)
              · cases k with
                | false =>
                  simp [g1, g2]
                  exact A (.inr ⟨rfl, rfl⟩)
                | true =>
                  simp [g1, g2]
                  have sv := B (by rintro (h | ⟨_, h⟩) <;> first | omega | cases h)
                  by_cases ec : v = c
                  · simpa [ec] using sv.1 ec
                  · rw [if_neg (by omega)]
                    exact sv.2 ec
            · have lt : t < s := by omega
              simp [g1, g2, eq]
              exact A (.inl lt)
          · simp [le]
            have sv := B (by rintro (h | ⟨h, _⟩) <;> omega)
            by_cases ec : v = c
            · simpa [ec] using sv.1 ec
            · rw [if_neg (by omega)]
              exact sv.2 ec
        · have e0 : ts.drop c = [] := List.drop_eq_nil_iff.mpr (by omega)
          rw [if_neg hc]
          have sv := serve ⟨ss.getD v 0, by rw [e0, mrg_nil, mrg_nil, d2]; rfl⟩
          by_cases ec : v = c
          · simpa [ec] using sv.1 ec
          · rw [if_neg (by omega)]
            exact sv.2 ec
      · rw [if_neg hv]
        have ec : c = row.length := by omega
        have e1 : ts.drop c = [] := List.drop_eq_nil_iff.mpr (by omega)
        have e2 : ss.drop v = [] := List.drop_eq_nil_iff.mpr (by omega)
        rw [e1, e2, mrg_nil] at h5
        exact q.2 w h5.fin
end LawP
set_option Elab.async false
set_option linter.all false
set_option maxRecDepth 100000
set_option maxHeartbeats 4000000
namespace LawP
open PySem PySem.Spec PyProof.Rows L2 VL
def tsOf (xs : List PyData) : List Int := xs.map fun | .int i => i | _ => 0
theorem sw_mkS' {u : List Nat} {n : Nat} (h : u.length ≤ n) (hc : ∀ c ∈ u, c < 1114112) : Sw n 0 (.str (mkS u)) := by
  refine ⟨by simp only [PyData.showable], ?_, ?_, by simp only [PyData.depth]; omega⟩
  · simp only [PyData.leavesShort]
    rw [List.all_eq_true]
    intro c hm
    have := hc c (by simpa using hm)
    exact decide_eq_true (by omega)
  · simp only [PyData.weight]
    show (mkS u).length ≤ n
    simpa using h
theorem tsOf_map (ts : List Int) : tsOf (ts.map PyData.int) = ts := by unfold tsOf; rw [List.map_map]; exact List.map_id' _ |>.trans rfl
open Classical in
noncomputable def resT (row : List Int) (p q : PyData) (fl : Bool) : PyData := if IsTm row.length p then (if IsTm row.length q then (match p, q with | .tuple xs, .tuple ys => (match outT fl (tsOf xs) (tsOf ys) with | some w => .str (mkS w) | none => .list [.str "history"]) | _, _ => .none) else .list [.str "times", q]) else .list [.str "times", p]
theorem dueT_of {row : List Int} {p q : PyData} {fl : Bool} {Q : D → Prop} (h : Q (.py (resT row p q fl))) : dueT row p q fl Q := by
  unfold resT at h
  refine ⟨fun hp => ?_, fun hp hq => ?_, fun ts ss e e2 hp hq => ?_⟩
  · rw [if_neg hp] at h
    exact h
  · rw [if_pos hp, if_neg hq] at h
    exact h
  · subst e e2
    rw [if_pos hp, if_pos hq] at h
    have h : Q (.py (match outT fl (tsOf (ts.map PyData.int)) (tsOf (ss.map PyData.int)) with | some w => .str (mkS w) | none => .list [.str "history"])) := h
    rw [tsOf_map, tsOf_map] at h
    refine ⟨fun e => ?_, fun w e => ?_⟩
    · rw [e] at h; exact h
    · rw [e] at h; exact h
theorem resT_ok {row : List Int} {p q : PyData} {fl : Bool} (hl : row.length ≤ 40) (hp : Sw 20000 8 p) (hq : Sw 20000 8 q) : ReprOk (resT row p q fl) := by
  have st : Sw 20000 8 (.str "times") := by decide +kernel
  unfold resT
  split
  · rename_i ht
    split
    · rename_i hd
      obtain ⟨ts, rfl, t1, t2, t3⟩ := ht
      obtain ⟨ss, rfl, s1, s2, s3⟩ := hd
      show ReprOk (match outT fl (tsOf (ts.map PyData.int)) (tsOf (ss.map PyData.int)) with | some w => .str (mkS w) | none => .list [.str "history"])
      rw [tsOf_map, tsOf_map]
      cases e : outT fl ts ss with
      | none => exact (show Sw 20000 8 (.list [.str "history"]) by decide +kernel).repr
      | some w =>
        obtain ⟨h1, h2⟩ := scanM_len e
        rw [(mrg_perm fl _ ts ss rfl).length_eq] at h1
        have hw : w.length ≤ 80 := by simp [allM] at h1; omega
        exact (sw_mkS' (n := 80) hw fun c hc => by have := h2 c hc; omega).repr
    · exact (st.l2 hq).repr
  · exact (st.l2 hp).repr
@[simp] def S_law_times (r : Addr) : SV := fun ds Q _ => ∃ (row : List Int) (wd ah : Int), ds = [.raw (.ref r), .py (tI row), .py (.int wd), .py (.int ah)] ∧ row.length ≤ 40 ∧ 0 ≤ wd ∧ wd ≤ 100000000 ∧ 0 ≤ ah ∧ ah ≤ 1000000000 ∧ ∀ ts : List Int, ts.length = row.length → (∀ t ∈ ts, 0 ≤ t ∧ t ≤ 1000000000) → Q (.py (tI ts))
theorem l_law_times (r : Addr) : ∀ ds Q E, S_law_times r ds Q E → t_law_times (svTake r) (envOf 7 ds) (fin Q E) := by
  rintro ds Q E ⟨row, wd, ah, rfl, hl, w0, w1, a0, a1, q⟩
  simp [t_law_times, -forGo]
  refine ⟨by omega, ?_⟩
  rw [rangeP_eq]
  refine for_enc (encR 0) (fun i ρ => ∃ (ts : List Int) (tm : Int) (z : VL.Slot), ρ = [.shr (.raw (.ref r)), .shr (.py (tI row)), .shr (.py (.int wd)), .shr (.py (.int ah)), .own (.py (.list (ts.map PyData.int))), .shr (.py (.int tm)), z] ∧ ts.length = i ∧ 0 ≤ tm ∧ tm ≤ 1000000000 ∧ ∀ t ∈ ts, 0 ≤ t ∧ t ≤ 1000000000) ⟨[], ah, _, rfl, rfl, by omega, by omega, by simp⟩ (fun i a ρ hx iv nx ct hn => ?_) (fun ρ iv => ?_)
  · obtain ⟨ts, tm, z, rfl, h1, h2, h3, h4⟩ := iv
    obtain ⟨rfl, ha⟩ := range_get hx
    simp
    refine ⟨by omega, by omega, fun x x0 x1 => ⟨by omega, (hn _ ⟨ts ++ [min 1000000000 (tm + x)], _, _, by rw [List.map_append]; rfl, by simp [h1], by omega, by omega, fun t ht => ?_⟩).1⟩⟩
    rcases List.mem_append.mp ht with h | h
    · exact h4 t h
    · rw [List.mem_singleton.mp h]
      omega
  · obtain ⟨ts, tm, z, rfl, h1, h2, h3, h4⟩ := iv
    simp at h1
    simp
    exact q ts (by omega) h4
@[simp] def S_law_bent (r : Addr) : SV := fun ds Q _ => ∃ ts : List Int, ds = [.raw (.ref r), .py (tI ts)] ∧ ts ≠ [] ∧ ts.length ≤ 40 ∧ (∀ t ∈ ts, 0 ≤ t ∧ t ≤ 1000000000) ∧ ∀ p, longT p → Sw 20000 8 p → Q (.py p)
theorem l_law_bent (r : Addr) : ∀ ds Q E, S_law_bent r ds Q E → t_law_bent (S_c_odd r) (svTake r) (envOf 5 ds) (fin Q E) := by
  rintro ds Q E ⟨ts, rfl, g0, hl, ht, q⟩
  simp [t_law_bent, -S_c_odd]
  have cl : ∀ a b, (cutL (ts.map PyData.int) a b).length ≤ 40 := fun a b => by
    have := cutL_len (ts.map PyData.int) a b
    rw [List.length_map] at this
    omega
  refine ⟨List.length_pos_iff.mpr g0, by omega, fun sp s0 s1 => ?_⟩
  refine ⟨rfl, fun o1 ho1 => ?_⟩
  simp
  have c1 := cl none (some sp)
  have c2 := cl (some (sp + 1)) none
  have c3 := cl (some (-1)) none
  refine ⟨by omega, by omega, by omega, by omega, by omega, by omega, fun x x0 x1 => ?_⟩
  have mem : ∀ a b, ∀ p ∈ cutL (ts.map PyData.int) a b, Sw 160 2 p := fun a b p hp => by
    obtain ⟨t, h, rfl⟩ := List.mem_map.mp (cutL_mem hp)
    exact (Sw.int (by have := ht t h; omega)).mono (by omega) (by omega)
  have its : ∀ p ∈ ts.map PyData.int, Sw 160 2 p := fun p hp => by
    obtain ⟨t, h, rfl⟩ := List.mem_map.mp hp
    exact (Sw.int (by have := ht t h; omega)).mono (by omega) (by omega)
  have tup : ∀ xs : List PyData, (∀ p ∈ xs, Sw 160 2 p) → xs.length ≤ 100 → Sw 20000 8 (.tuple xs) ∧ longT (PyData.tuple xs) := fun xs h1 h2 => ⟨(Sw.tup h1 h2).mono (by omega) (by omega), fun ys e => by injection e with e; rw [← e]; omega⟩
  have mid : ∀ o, Sw 160 2 o → ∀ p ∈ cutL (ts.map PyData.int) none (some sp) ++ o :: cutL (ts.map PyData.int) (some (sp + 1)) none, Sw 160 2 p := fun o ho p hp => by
    rcases List.mem_append.mp hp with h | h
    · exact mem _ _ p h
    · rcases List.mem_cons.mp h with rfl | h
      · exact ho
      · exact mem _ _ p h
  have all : ∀ p ∈ [PyData.tuple (cutL (ts.map PyData.int) none (some sp) ++ o1 :: cutL (ts.map PyData.int) (some (sp + 1)) none), .tuple (cutL (ts.map PyData.int) none (some sp) ++ cutL (ts.map PyData.int) (some (sp + 1)) none), .tuple (ts.map PyData.int ++ cutL (ts.map PyData.int) (some (-1)) none), .list (ts.map PyData.int), .tuple (ts.map PyData.int).reverse, o1, .tuple (cutL (ts.map PyData.int) none (some sp) ++ .int 1000000001 :: cutL (ts.map PyData.int) (some (sp + 1)) none)], Sw 20000 8 p ∧ longT p := fun p hp => by
    simp only [List.mem_cons, List.not_mem_nil, or_false] at hp
    rcases hp with rfl | rfl | rfl | rfl | rfl | rfl | rfl
    · exact tup _ (mid _ (oddsC_sw _ ho1)) (by simp; omega)
    · refine tup _ (fun p hp => ?_) (by simp; omega)
      rcases List.mem_append.mp hp with h | h
      · exact mem _ _ p h
      · exact mem _ _ p h
    · refine tup _ (fun p hp => ?_) (by simp; omega)
      rcases List.mem_append.mp hp with h | h
      · exact its p h
      · exact mem _ _ p h
    · exact ⟨(Sw.lst (n := 100) its (by simp; omega)).mono (by omega) (by omega), fun ys e => by cases e⟩
    · exact tup _ (fun p hp => its p (List.mem_reverse.mp hp)) (by simp; omega)
    · refine ⟨(oddsC_sw _ ho1).mono (by omega) (by omega), fun ys e => ?_⟩
      subst e
      have := (oddsC_sw _ ho1).items.2.len
      omega
    · exact tup _ (mid _ ((Sw.int (by omega)).mono (by omega) (by omega))) (by simp; omega)
  obtain ⟨d, hd, hm⟩ := atI_ok (xs := [PyData.tuple (cutL (ts.map PyData.int) none (some sp) ++ o1 :: cutL (ts.map PyData.int) (some (sp + 1)) none), .tuple (cutL (ts.map PyData.int) none (some sp) ++ cutL (ts.map PyData.int) (some (sp + 1)) none), .tuple (ts.map PyData.int ++ cutL (ts.map PyData.int) (some (-1)) none), .list (ts.map PyData.int), .tuple (ts.map PyData.int).reverse, o1, .tuple (cutL (ts.map PyData.int) none (some sp) ++ .int 1000000001 :: cutL (ts.map PyData.int) (some (sp + 1)) none)]) (i := x) (by omega) (by simp; omega)
  exact ⟨d, hd, q d (all d hm).2 (all d hm).1⟩
theorem l_law (r : Addr) : t_law (S_c_row r) (svTake r) (S_law_times r) (S_law_bent r) S_law_asked S_law_due (envBag 14 1 r) (fin isTrue' noE) := by
  have e0 : envBag 14 1 r = [.un, .shr (.raw (.ref r)), .un, .un, .un, .un, .un, .un, .un, .un, .un, .un, .un, .un] := rfl
  rw [e0]
  simp only [t_law, sSeq, sFor, iR1, vCons, vC, vNil, asR1]
  refine ⟨by decide, for_enc (encR 0) (fun _ ρ => ∃ a b c d e f g h i j k, ρ = [.un, .shr (.raw (.ref r)), a, b, c, d, e, f, g, h, i, j, k, .un]) ⟨_, _, _, _, _, _, _, _, _, _, _, rfl⟩ (fun i x ρ hx iv nx ct hn => ?_) (fun ρ iv => ?_)⟩
  · obtain ⟨a, b, c, d, e, f, g, h, i, j, k, rfl⟩ := iv
    simp [-S_law_asked, -S_law_due, -forGo, -lcGo, -S_law_bent, -S_law_times]
    obtain ⟨d1, hd, hm⟩ := atI_ok (xs := [PyData.int 40, PyData.int 5, PyData.int 2, PyData.int 12]) (i := (x : Int) % 4) (by omega) (by simp; omega)
    obtain ⟨kn, rfl, k1, k2⟩ : ∃ kn : Int, d1 = .int kn ∧ 1 ≤ kn ∧ kn ≤ 40 := by
      simp only [List.mem_cons, List.not_mem_nil, or_false] at hm
      rcases hm with rfl | rfl | rfl | rfl <;> exact ⟨_, rfl, by omega, by omega⟩
    refine ⟨_, hd, ?_⟩
    refine ⟨rfl, k1, k2, fun gs g0 gl hg => ?_⟩
    have hgs : gs.length ≤ 40 := by omega
    have row_ok : Sw 2000 8 (tI gs) := ((Sw.tI (n := 40) (fun g h => by have := hg g h; omega) hgs)).mono (by omega) (by omega)
    intro y y0 y1
    obtain ⟨d2, hd2, hm2⟩ := atI_ok (xs := [PyData.int 1, PyData.int 2, PyData.int 9, PyData.int 100000000]) (i := y) (by omega) (by simp; omega)
    obtain ⟨wd, rfl, w1, w2⟩ : ∃ kn : Int, d2 = .int kn ∧ 1 ≤ kn ∧ kn ≤ 100000000 := by
      simp only [List.mem_cons, List.not_mem_nil, or_false] at hm2
      rcases hm2 with rfl | rfl | rfl | rfl <;> exact ⟨_, rfl, by omega, by omega⟩
    refine ⟨_, hd2, fun z z0 z1 => ?_⟩
    refine ⟨gs, wd, z, rfl, hgs, by omega, w2, z0, by omega, fun ts tl ht => ?_⟩
    simp [-S_law_asked, -S_law_due, -forGo, -lcGo, -S_law_bent, -S_law_times]
    intro u u0 u1
    have t0 : ts ≠ [] := fun e => g0 (List.length_eq_zero_iff.mp (by rw [← tl, e]; rfl))
    have last : ∃ t, atI (ts.map PyData.int) (-1) = some (.int t) ∧ 0 ≤ t ∧ t ≤ 1000000000 := by
      obtain ⟨l, m, e⟩ := (List.eq_nil_or_concat ts).resolve_left t0
      refine ⟨m, ?_, ht m (by rw [e]; simp)⟩
      subst e
      unfold atI ixN
      simp
      have e3 : (-1 + ((l.length : Int) + 1)).toNat = l.length := by omega
      rw [if_pos (by omega), e3]
      simp
    obtain ⟨tz, hz, hz0, hz1⟩ := last
    refine ⟨_, hz, fun v v0 v1 => ?_⟩
    obtain ⟨d3, hd3, hm3⟩ := atI_ok (xs := [PyData.int u, PyData.int tz]) (i := v) (by omega) (by simp; omega)
    obtain ⟨ah, rfl, ah1, ah2⟩ : ∃ kn : Int, d3 = .int kn ∧ 0 ≤ kn ∧ kn ≤ 1000000000 := by
      simp only [List.mem_cons, List.not_mem_nil, or_false] at hm3
      rcases hm3 with rfl | rfl <;> exact ⟨_, rfl, by omega, by omega⟩
    refine ⟨_, hd3, ?_⟩
    refine ⟨gs, wd, ah, rfl, hgs, by omega, w2, ah1, ah2, fun ss sl hs => ?_⟩
    simp [-S_law_asked, -S_law_due, -forGo, -lcGo, -S_law_bent, -S_law_times]
    refine ⟨by omega, ?_⟩
    rw [rangeP_eq]
    have gt : ∀ k, k < gs.length → (ts.map PyData.int)[k]? = some (.int (ts.getD k 0)) := fun k hk => by
      rw [List.getElem?_map, List.getD_eq_getElem?_getD, List.getElem?_eq_getElem (by omega)]; rfl
    have gu : ∀ k, k < gs.length → (ss.map PyData.int)[k]? = some (.int (ss.getD k 0)) := fun k hk => by
      rw [List.getElem?_map, List.getD_eq_getElem?_getD, List.getElem?_eq_getElem (by omega)]; rfl
    refine lc_encM (encR 0) (fun k => .int (max (ts.getD k 0) (ss.getD k 0))) (fun n m hk kk k1 => ?_) (by simp; omega) ?_
    · obtain ⟨rfl, hk⟩ := range_get hk
      have hk' : m < gs.length := by simpa using hk
      simp [lcStep, encR]
      refine ⟨_, atI_nat (gt m hk'), _, atI_nat (gu m hk'), ?_⟩
      simpa using k1
    have ltr : (List.range gs.length).map (fun k => PyData.int (max (ts.getD k 0) (ss.getD k 0))) = ((List.range gs.length).map fun k => max (ts.getD k 0) (ss.getD k 0)).map PyData.int := by simp
    rw [ltr]
    have lb : ∀ t ∈ (List.range gs.length).map fun k => max (ts.getD k 0) (ss.getD k 0), 0 ≤ t ∧ t ≤ 1000000000 := fun t h => by
      obtain ⟨k, hk, rfl⟩ := List.mem_map.mp h
      have hk := List.mem_range.mp hk
      have h1 : ts.getD k 0 ∈ ts := by rw [List.getD_eq_getElem?_getD, List.getElem?_eq_getElem (by omega)]; exact List.getElem_mem _
      have h2 : ss.getD k 0 ∈ ss := by rw [List.getD_eq_getElem?_getD, List.getElem?_eq_getElem (by omega)]; exact List.getElem_mem _
      have := ht _ h1
      have := hs _ h2
      omega
    have ll : ((List.range gs.length).map fun k => max (ts.getD k 0) (ss.getD k 0)).length = gs.length := by simp
    generalize (List.range gs.length).map (fun k => max (ts.getD k 0) (ss.getD k 0)) = us at lb ll ⊢
    have s0 : ss ≠ [] := fun e => g0 (List.length_eq_zero_iff.mp (by rw [← sl, e]; rfl))
    have good : ∀ xs : List Int, xs.length ≤ 40 → (∀ t ∈ xs, 0 ≤ t ∧ t ≤ 1000000000) → longT (tI xs) ∧ Sw 20000 8 (tI xs) := fun xs h1 h2 => ⟨fun ys e => by unfold tI at e; injection e with e; rw [← e, List.length_map]; omega, (Sw.tI (n := 40) (fun t h => by have := h2 t h; omega) h1).mono (by omega) (by omega)⟩
    have gT := good ts (by omega) ht
    have gS := good ss (by omega) hs
    have gU := good us (by omega) lb
    clear gt gu ltr
    simp [-S_law_asked, -S_law_due, -forGo, -lcGo, -S_law_bent]
    refine ⟨ts, rfl, t0, by omega, ht, fun p1 a1 b1 => ?_⟩
    simp [-S_law_asked, -S_law_due, -forGo, -lcGo, -S_law_bent]
    refine ⟨ss, rfl, s0, by omega, hs, fun p2 a2 b2 => ?_⟩
    simp [-S_law_asked, -S_law_due, -forGo, -lcGo, -S_law_bent]
    refine ⟨ts, rfl, t0, by omega, ht, fun p3 a3 b3 => ?_⟩
    refine ⟨ss, rfl, s0, by omega, hs, fun p4 a4 b4 => ?_⟩
    simp [-S_law_asked, -S_law_due, -forGo, -lcGo, -S_law_bent]
    have all : ∀ x ∈ [PyData.tuple [tI ts, tI ss], .tuple [tI ts, tI us], .tuple [tI ts, tI ts], .tuple [tI ss, tI ts], .tuple [p1, tI ss], .tuple [tI ts, p2], .tuple [p3, p4]], ∃ p q, x = .tuple [p, q] ∧ longT p ∧ longT q ∧ Sw 20000 8 p ∧ Sw 20000 8 q := fun x hx => by
      simp only [List.mem_cons, List.not_mem_nil, or_false] at hx
      rcases hx with rfl | rfl | rfl | rfl | rfl | rfl | rfl
      · exact ⟨_, _, rfl, gT.1, gS.1, gT.2, gS.2⟩
      · exact ⟨_, _, rfl, gT.1, gU.1, gT.2, gU.2⟩
      · exact ⟨_, _, rfl, gT.1, gT.1, gT.2, gT.2⟩
      · exact ⟨_, _, rfl, gS.1, gT.1, gS.2, gT.2⟩
      · exact ⟨_, _, rfl, a1, gS.1, b1, gS.2⟩
      · exact ⟨_, _, rfl, gT.1, a2, gT.2, b2⟩
      · exact ⟨_, _, rfl, a3, a4, b3, b4⟩
    refine for_inv (xs := [PyData.tuple [tI ts, tI ss], .tuple [tI ts, tI us], .tuple [tI ts, tI ts], .tuple [tI ss, tI ts], .tuple [p1, tI ss], .tuple [tI ts, p2], .tuple [p3, p4]])
      (fun _ ρ => ∃ a b c d e f g h i j, ρ = [.un, .shr (.raw (.ref r)), a, .shr (.py (tI gs)), b, c, d, e, f, g, h, i, j, .un]) (fun k p ρ hp iv nx2 ct2 hn2 => ?_) (fun ρ iv => ?_) ⟨_, _, _, _, _, _, _, _, _, _, rfl⟩
    · obtain ⟨a, b, c, d, e, f, g, h, i, j, rfl⟩ := iv
      obtain ⟨p, q, rfl, l1, l2, w1, w2⟩ := all p (List.mem_of_getElem? hp)
      have sh : ReprOk (.list [tI gs, p, q]) := (Sw.lst (n := 3) (w := 20000) (d := 8) (fun x hx => by
        simp only [List.mem_cons, List.not_mem_nil, or_false] at hx
        rcases hx with rfl | rfl | rfl
        · exact row_ok.mono (by omega) (by omega)
        · exact w1
        · exact w2) (by simp)).repr
      clear hp all
      simp [-S_law_asked, -S_law_due]
      have three : ∀ fl : PyData, (fl = .none ∨ ∃ b, fl = .bool b) → ∀ Q : D → Prop, (∀ x, ReprOk x → Q (.py x)) → True := fun _ _ _ _ => trivial
      refine ⟨sh, gs, p, q, .none, rfl, hgs, l1, l2, .inl rfl, dueT_of ?_⟩
      simp [-S_law_asked, -S_law_due]
      refine ⟨resT_ok hgs w1 w2, gs, p, q, .none, rfl, hgs, l1, l2, .inl rfl, dueT_of ?_⟩
      simp [-S_law_asked, -S_law_due]
      refine ⟨resT_ok hgs w1 w2, gs, p, q, .bool false, rfl, hgs, l1, l2, .inr ⟨_, rfl⟩, dueT_of ?_⟩
      simp [-S_law_asked, -S_law_due]
      refine ⟨resT_ok hgs w1 w2, gs, p, q, .bool false, rfl, hgs, l1, l2, .inr ⟨_, rfl⟩, dueT_of ?_⟩
      simp [-S_law_asked, -S_law_due]
      refine ⟨resT_ok hgs w1 w2, gs, p, q, .bool true, rfl, hgs, l1, l2, .inr ⟨_, rfl⟩, dueT_of ?_⟩
      simp [-S_law_asked, -S_law_due]
      refine ⟨resT_ok hgs w1 w2, gs, p, q, .bool true, rfl, hgs, l1, l2, .inr ⟨_, rfl⟩, dueT_of ?_⟩
      simp [-S_law_asked, -S_law_due]
      exact ⟨resT_ok hgs w1 w2, sh, (hn2 _ ⟨_, _, _, _, _, _, _, _, _, _, rfl⟩).1⟩
    · obtain ⟨a, b, c, d, e, f, g, h, i, j, rfl⟩ := iv
      exact (hn _ ⟨_, _, _, _, _, _, _, _, _, _, _, rfl⟩).1
  · obtain ⟨a, b, c, d, e, f, g, h, i, j, k, rfl⟩ := iv
    simp
end LawP
set_option Elab.async false
set_option linter.all false
set_option maxRecDepth 100000
set_option maxHeartbeats 4000000
namespace LawP
open PySem PySem.Spec PyProof.Rows L2 VL
abbrev topS (i : Nat) : Stmt := PySem.Challenge.pw_matesline_k54_words_of_times.main.body.getD i (.Pass ⟨0, 0, 0, 0⟩)
section
variable {P : Program} {w : World} {K : PySem.W.Frag} {mg : Str → Option Value} {base : Heap} {b : Bg} {f : Addr} {fd : FuncData}
abbrev s_BadTimes : Stmt := clsDef (topS 10) 0
theorem sc_BadTimes : FnScope ["self", "value"] ["self", "value"] (defScope s_BadTimes) := ⟨rfl, rfl, rfl, by decide +kernel, rfl, by decide +kernel, by decide +kernel⟩
theorem wi_BadTimes {fa : Addr} (F : Fun K "__init__" "BadTimes.__init__" s_BadTimes fa fd) : FnOk P w K mg base (L2.CX P w) 1 fa fd ["self", "value"] (spInit K "value") := ok_init F sc_BadTimes rfl rfl rfl (by decide) (by decide)
abbrev s_c_row : Stmt := topS 21
abbrev N_c_row : List Str := ["_law_crank_here", "_law_size", "_law_groups", "_law_k"]
theorem sc_c_row : FnScope N_c_row ["_law_crank_here", "_law_size"] (defScope s_c_row) := ⟨rfl, rfl, rfl, by decide +kernel, rfl, by decide +kernel, by decide +kernel⟩
theorem w_c_row {S : SV} {S_law_wind : SV} (F : Fun K "_law_row" "_law_row" s_c_row f fd) (F_law_wind : Cal P w K mg base b 1 "_law_wind" ["_law_crank_here", "_law_many"] S_law_wind) (n_tuple : mg "tuple" = none) (n_range : mg "range" = none) (hlen : ∀ ds Q E, S ds Q E → ds.length = 2)
    (law : ∀ ds Q E, S ds Q E → t_c_row S_law_wind (envOf 4 ds) (fin Q E)) : FnOk P w K mg base (L2.CX P w) 2 f fd ["_law_crank_here", "_law_size"] (spV b S) := by
  refine fnV F sc_c_row hlen (by decide) (fun cdv A outer s H E hr tk => ?_) law
  exact (vs_cons (vs_asg (i := 2) sc_c_row.nd rfl (.inr rfl) (ve_ix (VN.toX (vn_lst (va_cons ve_int (va_cons ve_int (va_cons ve_int (va_cons ve_int (va_cons (ve_pow (VE.toX ve_int) (VE.toX ve_int)) va_nil))))))) (VE.toX (ve_cal F_law_wind hr tk (by rfl) (va_cons (ve_var (pv 0)) (va_cons ve_int va_nil))))))
      (vs_one (vs_ret (ve_tupleC (by rfl) n_tuple (vxs_cons (VN.toX (vn_lc (own := [("_law_k", 3)]) rfl sc_c_row.nd (vib_range1 (by rfl) n_range (vxs_cons (VE.toX (ve_add (VE.toX ve_int) (VE.toX (ve_cal F_law_wind hr tk (by rfl) (va_cons (ve_var (pv 0)) (va_cons (ve_var (pv 1)) va_nil)))))) vxs_nil)) (blkOk_by (N := N_c_row) (sc := defScope s_c_row) (by decide +kernel)) (by decide) (fun _ _ _ _ _ => (vg_name (i := 3) sc_c_row.nd rfl (.inl rfl))) (fun _ _ _ _ _ => vts_nil) (fun _ _ _ _ _ => (ve_cal F_law_wind hr takes0 (by rfl) (va_cons (ve_var (pv 0)) (va_cons (ve_var (pv 2)) va_nil)))))) vxs_nil)))))
abbrev s_law_times : Stmt := topS 28
abbrev N_law_times : List Str := ["_law_crank_here", "_law_row_here", "_law_wide", "_law_ahead", "_law_found", "_law_time", "_law_k"]
theorem sc_law_times : FnScope N_law_times ["_law_crank_here", "_law_row_here", "_law_wide", "_law_ahead"] (defScope s_law_times) := ⟨rfl, rfl, rfl, by decide +kernel, rfl, by decide +kernel, by decide +kernel⟩
theorem w_law_times {S : SV} {S_law_wind : SV} (F : Fun K "_law_times" "_law_times" s_law_times f fd) (F_law_wind : Cal P w K mg base b 1 "_law_wind" ["_law_crank_here", "_law_many"] S_law_wind) (n_range : mg "range" = none) (n_len : mg "len" = none) (n_min : mg "min" = none) (n_tuple : mg "tuple" = none) (hlen : ∀ ds Q E, S ds Q E → ds.length = 4)
    (law : ∀ ds Q E, S ds Q E → t_law_times S_law_wind (envOf 7 ds) (fin Q E)) : FnOk P w K mg base (L2.CX P w) 2 f fd ["_law_crank_here", "_law_row_here", "_law_wide", "_law_ahead"] (spV b S) := by
  refine fnV F sc_law_times hlen (by decide) (fun cdv A outer s H E hr tk => ?_) law
  exact (vs_cons (vs_par2 (i := 4) (j := 5) rfl sc_law_times.nd rfl rfl (by decide) rfl rfl (vm_nw (vn_lst va_nil) (vm_sh (ve_var (pv 3)) vm_nil)) (by rfl))
      (vs_cons (vs_for (passes_of rfl) rfl (vi_range1 (by rfl) n_range (vxs_cons (VE.toX (ve_len (by rfl) n_len (vxs_cons (vx_var (pv 1)) vxs_nil))) vxs_nil)) (vg_name (i := 6) sc_law_times.nd rfl (.inl rfl))
      (vs_cons (vs_asg (i := 5) sc_law_times.nd rfl (.inl rfl) (ve_min rfl (by rfl) n_min (vxs_cons (VE.toX (ve_pow (VE.toX ve_int) (VE.toX ve_int))) (vxs_cons (VE.toX (ve_add (vx_var (pv 5)) (VE.toX (ve_cal F_law_wind hr tk (by rfl) (va_cons (ve_var (pv 0)) (va_cons (ve_add (vx_var (pv 2)) (VE.toX ve_int)) va_nil)))))) vxs_nil))))
      (vs_one (vs_app (pv 4) (va_cons (ve_var (pv 5)) va_nil)))))
      (vs_one (vs_ret (ve_tupleC (by rfl) n_tuple (vxs_cons (vx_var (pv 4)) vxs_nil))))))
abbrev s_c_odd : Stmt := topS 22
abbrev N_c_odd : List Str := ["_law_crank_here", "_law_some"]
theorem sc_c_odd : FnScope N_c_odd ["_law_crank_here"] (defScope s_c_odd) := ⟨rfl, rfl, rfl, by decide +kernel, rfl, by decide +kernel, by decide +kernel⟩
theorem w_c_odd {S : SV} {S_law_wind : SV} (F : Fun K "_law_odd" "_law_odd" s_c_odd f fd) (F_law_wind : Cal P w K mg base b 1 "_law_wind" ["_law_crank_here", "_law_many"] S_law_wind) (hlen : ∀ ds Q E, S ds Q E → ds.length = 1)
    (law : ∀ ds Q E, S ds Q E → t_c_odd S_law_wind (envOf 2 ds) (fin Q E)) : FnOk P w K mg base (L2.CX P w) 2 f fd ["_law_crank_here"] (spV b S) := by
  refine fnV F sc_c_odd hlen (by decide) (fun cdv A outer s H E hr tk => ?_) law
  exact (vs_cons (vs_asg (i := 1) sc_c_odd.nd rfl (.inl rfl) (VN.toE (vn_lst (va_cons ve_non (va_cons ve_bl (va_cons ve_bl (va_cons (ve_neg (VE.toX ve_int)) (va_cons ve_int (va_cons ve_int (va_cons ve_int (va_cons ve_int (va_cons (ve_pow (VE.toX ve_int) (VE.toX ve_int)) (va_cons ve_str (va_cons ve_str (va_cons ve_str (va_cons ve_str (va_cons (ve_tup va_nil) (va_cons (VN.toE (vn_lst va_nil)) (va_cons (VN.toE vn_dict0) (va_cons (ve_tup (va_cons ve_int va_nil)) (va_cons (VN.toE (vn_lst (va_cons ve_int va_nil))) va_nil)))))))))))))))))))))
      (vs_one (vs_ret (ve_ix (VE.toX (ve_add (vx_var (pv 1)) (VN.toX (vn_lst (va_cons (ve_tup (va_cons ve_int (va_cons ve_int va_nil))) (va_cons (ve_tup (va_cons (ve_tup va_nil) va_nil)) va_nil)))))) (VE.toX (ve_cal F_law_wind hr tk (by rfl) (va_cons (ve_var (pv 0)) (va_cons ve_int va_nil))))))))
abbrev s_law_bent : Stmt := topS 29
abbrev N_law_bent : List Str := ["_law_crank_here", "_law_times_here", "_law_spot", "_law_one", "_law_some"]
theorem sc_law_bent : FnScope N_law_bent ["_law_crank_here", "_law_times_here"] (defScope s_law_bent) := ⟨rfl, rfl, rfl, by decide +kernel, rfl, by decide +kernel, by decide +kernel⟩
theorem w_law_bent {S : SV} {S_c_odd : SV} {S_law_wind : SV} (F : Fun K "_law_bent" "_law_bent" s_law_bent f fd) (F_c_odd : Cal P w K mg base b 2 "_law_odd" ["_law_crank_here"] S_c_odd) (F_law_wind : Cal P w K mg base b 1 "_law_wind" ["_law_crank_here", "_law_many"] S_law_wind) (n_len : mg "len" = none) (n_list : mg "list" = none) (hlen : ∀ ds Q E, S ds Q E → ds.length = 2)
    (law : ∀ ds Q E, S ds Q E → t_law_bent S_c_odd S_law_wind (envOf 5 ds) (fin Q E)) : FnOk P w K mg base (L2.CX P w) 3 f fd ["_law_crank_here", "_law_times_here"] (spV b S) := by
  refine fnV F sc_law_bent hlen (by decide) (fun cdv A outer s H E hr tk => ?_) law
  exact (vs_cons (vs_par2 (i := 2) (j := 3) rfl sc_law_bent.nd rfl rfl (by decide) rfl rfl (vm_sh (ve_cal F_law_wind hr tk (by rfl) (va_cons (ve_var (pv 0)) (va_cons (ve_len (by rfl) n_len (vxs_cons (vx_var (pv 1)) vxs_nil)) va_nil))) (vm_sh (ve_cal F_c_odd hr tk (by rfl) (va_cons (ve_var (pv 0)) va_nil)) vm_nil)) (by rfl))
      (vs_cons (vs_asg (i := 4) sc_law_bent.nd rfl (.inl rfl) (VN.toE (vn_lst (va_cons (ve_add (VE.toX (ve_add (VE.toX (ve_sl (vx_var (pv 1)) vo_no (vo_at (vx_var (pv 2))))) (VE.toX (ve_tup (va_cons (ve_var (pv 3)) va_nil))))) (VE.toX (ve_sl (vx_var (pv 1)) (vo_at (VE.toX (ve_add (vx_var (pv 2)) (VE.toX ve_int)))) vo_no))) (va_cons (ve_add (VE.toX (ve_sl (vx_var (pv 1)) vo_no (vo_at (vx_var (pv 2))))) (VE.toX (ve_sl (vx_var (pv 1)) (vo_at (VE.toX (ve_add (vx_var (pv 2)) (VE.toX ve_int)))) vo_no))) (va_cons (ve_add (vx_var (pv 1)) (VE.toX (ve_sl (vx_var (pv 1)) (vo_at (VE.toX (ve_neg (VE.toX ve_int)))) vo_no))) (va_cons (VN.toE (vn_listC (by rfl) n_list (vxs_cons (vx_var (pv 1)) vxs_nil))) va_nil)))))))
      (vs_one (vs_ret (ve_ix (VE.toX (ve_add (vx_var (pv 4)) (VN.toX (vn_lst (va_cons (ve_backA (vx_var (pv 1)) (vo_at (VE.toX (ve_neg (VE.toX ve_int))))) (va_cons (ve_var (pv 3)) (va_cons (ve_add (VE.toX (ve_add (VE.toX (ve_sl (vx_var (pv 1)) vo_no (vo_at (vx_var (pv 2))))) (VE.toX (ve_tup (va_cons (ve_add (VE.toX (ve_pow (VE.toX ve_int) (VE.toX ve_int))) (VE.toX ve_int)) va_nil))))) (VE.toX (ve_sl (vx_var (pv 1)) (vo_at (VE.toX (ve_add (vx_var (pv 2)) (VE.toX ve_int)))) vo_no))) va_nil))))))) (VE.toX (ve_cal F_law_wind hr tk (by rfl) (va_cons (ve_var (pv 0)) (va_cons ve_int va_nil)))))))))
abbrev s_is_integer : Stmt := topS 14
abbrev N_is_integer : List Str := ["value", "low", "high"]
theorem sc_is_integer : FnScope N_is_integer ["value", "low", "high"] (defScope s_is_integer) := ⟨rfl, rfl, rfl, by decide +kernel, rfl, by decide +kernel, by decide +kernel⟩
theorem w_is_integer {S : SV} (F : Fun K "is_integer" "is_integer" s_is_integer f fd) (n_isinstance : mg "isinstance" = none) (n_bool : mg "bool" = none) (n_int : mg "int" = none) (hlen : ∀ ds Q E, S ds Q E → ds.length = 3)
    (law : ∀ ds Q E, S ds Q E → t_is_integer (envOf 3 ds) (fin Q E)) : FnOk P w K mg base (L2.CX P w) 1 f fd ["value", "low", "high"] (spV b S) := by
  refine fnV F sc_is_integer hlen (by decide) (fun cdv A outer s H E hr tk => ?_) law
  exact (vs_one (vs_ret (ve_and (VE.toX (ve_isi (by rfl) n_isinstance (vxs_cons (vx_var (pv 0)) (vxs_cons (VE.toX (ve_tyInt (by rfl) n_int)) vxs_nil)))) (ve_and (VE.toX (ve_not (VE.toX (ve_isi (by rfl) n_isinstance (vxs_cons (vx_var (pv 0)) (vxs_cons (VE.toX (ve_tyBool (by rfl) n_bool)) vxs_nil)))))) (ve_one (ve_le2 (vx_var (pv 1)) (vx_var (pv 0)) (vx_var (pv 2))))))))
abbrev s_check_times : Stmt := topS 16
abbrev N_check_times : List Str := ["row", "value", "time"]
theorem sc_check_times : FnScope N_check_times ["row", "value"] (defScope s_check_times) := ⟨rfl, rfl, rfl, by decide +kernel, rfl, by decide +kernel, by decide +kernel⟩
theorem w_check_times {S : SV} {S_is_integer : SV} (F : Fun K "check_times" "check_times" s_check_times f fd) (F_is_integer : Cal P w K mg base b 1 "is_integer" ["value", "low", "high"] S_is_integer) (c_MAX_GROUP : ∃ t, mg "MAX_GROUP" = some (.int 1000000000 t)) (n_isinstance : mg "isinstance" = none) (n_tuple : mg "tuple" = none) (n_len : mg "len" = none) (n_all : mg "all" = none) (n_list : mg "list" = none) (n_sorted : mg "sorted" = none) (M_BadTimes : Mk1 P w K mg base b "BadTimes" "value") (hlen : ∀ ds Q E, S ds Q E → ds.length = 2)
    (law : ∀ ds Q E, S ds Q E → t_check_times S_is_integer (envOf 3 ds) (fin Q E)) : FnOk P w K mg base (L2.CX P w) 3 f fd ["row", "value"] (spV b S) := by
  refine fnV F sc_check_times hlen (by decide) (fun cdv A outer s H E hr tk => ?_) law
  have hu := hr.units
  exact (vs_cons (vs_if (VWe.pt (vw_or (vt_not (vt_val (VE.toX (ve_isi (by rfl) n_isinstance (vxs_cons (vx_var (pv 1)) (vxs_cons (VE.toX (ve_tyTuple (by rfl) n_tuple)) vxs_nil)))))) (vw_or1 (vt_ne hu (VE.toX (ve_len (by rfl) n_len (vxs_cons (vx_var (pv 1)) vxs_nil))) (VE.toX (ve_len (by rfl) n_len (vxs_cons (vx_var (pv 0)) vxs_nil)))))))
      (vs_one (vs_raise1 M_BadTimes hr rfl tk (by rfl) (ve_var (pv 1))))
      vs_nil)
      (vs_one (vs_if (VWe.pt (vw_or (vt_not (vt_val (VE.toX (ve_all rfl (by rfl) n_all (vxs_cons (VN.toX (vn_lc (own := [("time", 2)]) rfl sc_check_times.nd (vib_src (vx_var (pv 1))) (blkOk_by (N := N_check_times) (sc := defScope s_check_times) (by decide +kernel)) (by decide) (fun _ _ _ _ _ => (vg_name (i := 2) sc_check_times.nd rfl (.inl rfl))) (fun _ _ _ _ _ => vts_nil) (fun _ _ _ _ _ => (ve_cal F_is_integer hr takes0 (by rfl) (va_cons (ve_var (pv 2)) (va_cons ve_int (va_cons (ve_gint (by rfl) c_MAX_GROUP) va_nil))))))) vxs_nil))))) (vw_or1 (vt_ne hu (VN.toX (vn_listC (by rfl) n_list (vxs_cons (vx_var (pv 1)) vxs_nil))) (VN.toX (vn_sortedC (by rfl) n_sorted (vxs_cons (vx_var (pv 1)) vxs_nil)))))))
      (vs_one (vs_raise1 M_BadTimes hr rfl tk (by rfl) (ve_var (pv 1))))
      vs_nil)))
abbrev s_timed_word : Stmt := topS 17
abbrev N_timed_word : List Str := ["row", "arrivals", "services", "service_first", "letters", "pairs", "word", "waiting", "time", "rank"]
theorem sc_timed_word : FnScope N_timed_word ["row", "arrivals", "services", "service_first"] (defScope s_timed_word) := ⟨rfl, rfl, rfl, by decide +kernel, rfl, by decide +kernel, by decide +kernel⟩
theorem w_timed_word {S : SV} {S_check_times : SV} (F : Fun K "timed_word" "timed_word" s_timed_word f fd) (F_check_times : Cal P w K mg base b 3 "check_times" ["row", "value"] S_check_times) (c_SERVICE : ∃ t, mg "SERVICE" = some (.str "s" t)) (c_ARRIVAL : ∃ t, mg "ARRIVAL" = some (.str "a" t)) (n_sorted : mg "sorted" = none) (M_NoHistory : Mk0 K mg b "NoHistory") (hlen : ∀ ds Q E, S ds Q E → ds.length = 4)
    (law : ∀ ds Q E, S ds Q E → t_timed_word S_check_times (envOf 10 ds) (fin Q E)) : FnOk P w K mg base (L2.CX P w) 4 f fd ["row", "arrivals", "services", "service_first"] (spV b S) := by
  refine fnV F sc_timed_word hlen (by decide) (fun cdv A outer s H E hr tk => ?_) law
  have hu := hr.units
  exact (vs_cons (vs_expr (ve_cal F_check_times hr tk (by rfl) (va_cons (ve_var (pv 0)) (va_cons (ve_var (pv 1)) va_nil))))
      (vs_cons (vs_expr (ve_cal F_check_times hr tk (by rfl) (va_cons (ve_var (pv 0)) (va_cons (ve_var (pv 2)) va_nil))))
      (vs_cons (vs_asg (i := 4) sc_timed_word.nd rfl (.inr rfl) (ve_if (vt_val (vx_var (pv 3))) (ve_add (VE.toX (ve_gstr (by rfl) c_SERVICE)) (VE.toX (ve_gstr (by rfl) c_ARRIVAL))) (ve_add (VE.toX (ve_gstr (by rfl) c_ARRIVAL)) (VE.toX (ve_gstr (by rfl) c_SERVICE)))))
      (vs_cons (vs_setLc (i := 5) (own := [("time", 8)]) rfl sc_timed_word.nd rfl rfl (by rfl) (vib_src (vx_var (pv 1))) (blkOk_by (N := N_timed_word) (sc := defScope s_timed_word) (by decide +kernel)) (by decide) (fun _ _ _ _ _ => (vg_name (i := 8) sc_timed_word.nd rfl (.inl rfl))) (fun _ _ _ _ _ => vts_nil) (fun _ _ _ _ _ => (ve_tup (va_cons (ve_var (pv 8)) (va_cons (ve_mth mx_indexS (vx_var (pv 4)) (vxs_cons (VE.toX (ve_gstr (by rfl) c_ARRIVAL)) vxs_nil)) va_nil)))))
      (vs_cons (vs_ext (pv 5) (va_cons (VN.toE (vn_lc (own := [("time", 8)]) rfl sc_timed_word.nd (vib_src (vx_var (pv 2))) (blkOk_by (N := N_timed_word) (sc := defScope s_timed_word) (by decide +kernel)) (by decide) (fun _ _ _ _ _ => (vg_name (i := 8) sc_timed_word.nd rfl (.inl rfl))) (fun _ _ _ _ _ => vts_nil) (fun _ _ _ _ _ => (ve_tup (va_cons (ve_var (pv 8)) (va_cons (ve_mth mx_indexS (vx_var (pv 4)) (vxs_cons (VE.toX (ve_gstr (by rfl) c_SERVICE)) vxs_nil)) va_nil)))))) va_nil))
      (vs_cons (vs_parT (is := [6, 7]) rfl (pgs_cons (pg_name (i := 6) sc_timed_word.nd rfl (.inl rfl)) (pgs_cons (pg_name (i := 7) sc_timed_word.nd rfl (.inl rfl)) pgs_nil)) (vm_sh ve_str (vm_sh ve_int vm_nil)))
      (vs_cons (vs_for (passes_of rfl) rfl (vi_src (VN.toE (vn_sortedT (by rfl) n_sorted (vxs_cons (vx_var (pv 5)) vxs_nil)))) (vg_tup rfl (vgs_cons (vg_name (i := 8) sc_timed_word.nd rfl (.inl rfl)) (vgs_cons (vg_name (i := 9) sc_timed_word.nd rfl (.inl rfl)) vgs_nil)))
      (vs_cons (vs_augAdd (i := 7) sc_timed_word.nd rfl (.inl rfl) (ve_if (vt_eq hu (VE.toX (ve_ix (vx_var (pv 4)) (vx_var (pv 9)))) (VE.toX (ve_gstr (by rfl) c_ARRIVAL))) ve_int (ve_neg (VE.toX ve_int))))
      (vs_cons (vs_if (vt_lt (vx_var (pv 7)) (VE.toX ve_int))
      (vs_one (vs_raise0 M_NoHistory rfl tk (by rfl)))
      vs_nil)
      (vs_one (vs_augAdd (i := 6) sc_timed_word.nd rfl (.inl rfl) (ve_ix (vx_var (pv 4)) (vx_var (pv 9))))))))
      (vs_one (vs_ret (ve_var (pv 6)))))))))))
abbrev s_law_error : Stmt := topS 24
abbrev N_law_error : List Str := ["_law_error_here", "_law_flags"]
theorem sc_law_error : FnScope N_law_error ["_law_error_here"] (defScope s_law_error) := ⟨rfl, rfl, rfl, by decide +kernel, rfl, by decide +kernel, by decide +kernel⟩
theorem w_law_error {S : SE} (F : Fun K "_law_error" "_law_error" s_law_error f fd) (n_isinstance : mg "isinstance" = none) (n_ValueError : mg "ValueError" = none) (T_BadWord : ErrT K mg b ["BadTimes", "NoHistory"] "BadWord") (EC : ∀ n ∈ (["BadTimes", "NoHistory"] : List Str), ErrC K (b.cls n)) (T_NoPerson : ErrT K mg b ["BadTimes", "NoHistory"] "NoPerson") (T_BadTimes : ErrT K mg b ["BadTimes", "NoHistory"] "BadTimes") (T_NoOrder : ErrT K mg b ["BadTimes", "NoHistory"] "NoOrder") (T_Impossible : ErrT K mg b ["BadTimes", "NoHistory"] "Impossible") (T_NoHistory : ErrT K mg b ["BadTimes", "NoHistory"] "NoHistory") (EV : ∀ n ∈ (["BadTimes", "NoHistory"] : List Str), PySem.W.kitOne K (.ref (b.cls n)) (.type "ValueError") = some true) (T_TooLarge : ErrT K mg b ["BadTimes", "NoHistory"] "TooLarge") (T_BadCount : ErrT K mg b ["BadTimes", "NoHistory"] "BadCount") (FE_error : ∀ n ∈ ([] : List Str), FldC K (b.cls n) "error") (FE_value : ∀ n ∈ (["BadTimes"] : List Str), FldC K (b.cls n) "value")
    (law : ∀ a d er Q E, S er Q → t_law_error a d er (envOf 2 [.err a d er.n er.fs]) (fin Q E)) : FnE P w K mg base b 1 f fd ["_law_error_here"] S := by
  refine fnE F sc_law_error rfl (by decide) (fun cdv A outer s H a oe er d hr hz hf => ?_) law
  have hu : (A.deeper (envOfC "_law_error" (defScope s_law_error) s.heap.objs.size f cdv)).units + 64 < cLine := by have h := hr.un; omega
  exact (vs_cons (vs_asg (i := 1) sc_law_error.nd rfl (.inl rfl) (VN.toE (vn_lst (va_cons (ve_errI T_BadWord EC hz hf (by rfl) n_isinstance (pv 0) (by rfl)) (va_cons (ve_errI T_NoPerson EC hz hf (by rfl) n_isinstance (pv 0) (by rfl)) (va_cons (ve_errI T_BadTimes EC hz hf (by rfl) n_isinstance (pv 0) (by rfl)) va_nil))))))
      (vs_cons (vs_asg (i := 1) sc_law_error.nd rfl (.inl rfl) (ve_add (vx_var (pv 1)) (VN.toX (vn_lst (va_cons (ve_errI T_NoOrder EC hz hf (by rfl) n_isinstance (pv 0) (by rfl)) (va_cons (ve_errI T_Impossible EC hz hf (by rfl) n_isinstance (pv 0) (by rfl)) (va_cons (ve_errI T_NoHistory EC hz hf (by rfl) n_isinstance (pv 0) (by rfl)) va_nil)))))))
      (vs_cons (vs_if (VWe.pt (vw_or (vt_ne hu (VE.toX (ve_mth mx_cntB (vx_var (pv 1)) (vxs_cons (VE.toX ve_bl) vxs_nil))) (VE.toX ve_int)) (vw_or (vt_not (vt_val (VE.toX (ve_errV EV EC hz hf (by rfl) n_isinstance (pv 0) (by rfl) n_ValueError)))) (vw_or1 (vt_val (VE.toX (ve_errIT (pns_cons T_BadCount (by rfl) (pns_cons T_TooLarge (by rfl) pns_nil)) EC hz hf (by rfl) n_isinstance (pv 0) (by decide))))))))
      (vs_one (vs_ret (VN.toE (vn_lst (va_cons ve_str va_nil)))))
      vs_nil)
      (vs_cons (vs_if (vt_val (VE.toX (ve_ix (vx_var (pv 1)) (VE.toX ve_int))))
      (vs_one (vs_ret (VN.toE (vn_lst (va_cons ve_str (va_cons (ve_errF FE_error hz hf (pv 0)) va_nil))))))
      vs_nil)
      (vs_cons (vs_if (vt_val (VE.toX (ve_ix (vx_var (pv 1)) (VE.toX ve_int))))
      (vs_one (vs_ret (VN.toE (vn_lst (va_cons ve_str (va_cons (ve_errF FE_value hz hf (pv 0)) va_nil))))))
      vs_nil)
      (vs_cons (vs_if (vt_val (VE.toX (ve_ix (vx_var (pv 1)) (VE.toX ve_int))))
      (vs_one (vs_ret (VN.toE (vn_lst (va_cons ve_str (va_cons (ve_errF FE_value hz hf (pv 0)) va_nil))))))
      vs_nil)
      (vs_one (vs_ret (ve_ix (VN.toX (vn_lst (va_cons (VN.toE (vn_lst (va_cons ve_str va_nil))) (va_cons (VN.toE (vn_lst (va_cons ve_str va_nil))) (va_cons (VN.toE (vn_lst (va_cons ve_str va_nil))) va_nil))))) (VE.toX (ve_sub (VE.toX (ve_mth (mx_index (show _ from (by have h := hr.un; omega : (A.deeper (envOfC "_law_error" (defScope s_law_error) s.heap.objs.size f cdv)).units + 65 < cLine))) (vx_var (pv 1)) (vxs_cons (VE.toX ve_bl) vxs_nil))) (VE.toX ve_int))))))))))))
abbrev s_law_asked : Stmt := topS 25
abbrev N_law_asked : List Str := ["_law_row_here", "_law_one", "_law_two", "_law_flag", "_law_found", "_law_error_here"]
theorem sc_law_asked : FnScope N_law_asked ["_law_row_here", "_law_one", "_law_two", "_law_flag"] (defScope s_law_asked) := ⟨rfl, rfl, rfl, by decide +kernel, rfl, by decide +kernel, by decide +kernel⟩
theorem w_law_asked {S : SV} {S_timed_word : SV} {S_law_error : SE} (F : Fun K "_law_asked" "_law_asked" s_law_asked f fd) (F_timed_word : CalW P w K mg base b 4 "timed_word" ["row", "arrivals", "services"] "service_first" (.bool false) S_timed_word) (F_law_error : CalE P w K mg base b 1 "_law_error" ["_law_error_here"] S_law_error) (T_LineError : ErrT K mg b ["BadTimes", "NoHistory"] "LineError") (hlen : ∀ ds Q E, S ds Q E → ds.length = 4)
    (law : ∀ ds Q E, S ds Q E → t_law_asked S_timed_word S_law_error (envOf 6 ds) (fin Q E)) : FnOk P w K mg base (L2.CX P w) 5 f fd ["_law_row_here", "_law_one", "_law_two", "_law_flag"] (spV b S) := by
  refine fnV F sc_law_asked hlen (by decide) (fun cdv A outer s H E hr tk => ?_) law
  exact (vs_cons (vs_asg (i := 4) sc_law_asked.nd rfl (.inl rfl) ve_non)
      (vs_cons (vs_try (i := 5) rfl rfl sc_law_asked.nd rfl rfl T_LineError (by rfl) tk (fun W pn xe tk ps =>
      (vs_one (vs_if (vt_isN (vx_var (pv 3)) (VE.toX ve_non))
      (vs_one (vs_asg (i := 4) sc_law_asked.nd rfl (.inl rfl) (ve_calW F_timed_word hr tk (by rfl) (va_cons (ve_var (pv 0)) (va_cons (ve_var (pv 1)) (va_cons (ve_var (pv 2)) va_nil))))))
      (vs_one (vs_asg (i := 4) sc_law_asked.nd rfl (.inl rfl) (ve_calWk F_timed_word hr tk (by rfl) (va_cons (ve_var (pv 0)) (va_cons (ve_var (pv 1)) (va_cons (ve_var (pv 2)) va_nil))) (ve_var (pv 3)))))))) (fun a oe er d pn hz hf =>
      (vs_one (vs_asg (i := 4) sc_law_asked.nd rfl (.inl rfl) (ve_callE F_law_error hz hf (hr.mono (j := 1) (by decide)).dp (hr.mono (j := 1) (by decide)).un (by rfl) (pv 5))))))
      (vs_one (vs_ret (ve_var (pv 4))))))
abbrev s_c_is_int : Stmt := topS 23
abbrev N_c_is_int : List Str := ["_law_value", "_law_low", "_law_high"]
theorem sc_c_is_int : FnScope N_c_is_int ["_law_value", "_law_low", "_law_high"] (defScope s_c_is_int) := ⟨rfl, rfl, rfl, by decide +kernel, rfl, by decide +kernel, by decide +kernel⟩
theorem w_c_is_int {S : SV} (F : Fun K "_law_is_int" "_law_is_int" s_c_is_int f fd) (n_isinstance : mg "isinstance" = none) (n_bool : mg "bool" = none) (n_int : mg "int" = none) (hlen : ∀ ds Q E, S ds Q E → ds.length = 3)
    (law : ∀ ds Q E, S ds Q E → t_c_is_int (envOf 3 ds) (fin Q E)) : FnOk P w K mg base (L2.CX P w) 1 f fd ["_law_value", "_law_low", "_law_high"] (spV b S) := by
  refine fnV F sc_c_is_int hlen (by decide) (fun cdv A outer s H E hr tk => ?_) law
  exact (vs_one (vs_ret (ve_and (VE.toX (ve_isi (by rfl) n_isinstance (vxs_cons (vx_var (pv 0)) (vxs_cons (VE.toX (ve_tyInt (by rfl) n_int)) vxs_nil)))) (ve_and (VE.toX (ve_not (VE.toX (ve_isi (by rfl) n_isinstance (vxs_cons (vx_var (pv 0)) (vxs_cons (VE.toX (ve_tyBool (by rfl) n_bool)) vxs_nil)))))) (ve_one (ve_le2 (vx_var (pv 1)) (vx_var (pv 0)) (vx_var (pv 2))))))))
abbrev s_c_is_times : Stmt := topS 26
abbrev N_c_is_times : List Str := ["_law_row_here", "_law_value", "_law_one", "_law_k"]
theorem sc_c_is_times : FnScope N_c_is_times ["_law_row_here", "_law_value"] (defScope s_c_is_times) := ⟨rfl, rfl, rfl, by decide +kernel, rfl, by decide +kernel, by decide +kernel⟩
theorem w_c_is_times {S : SV} {S_c_is_int : SV} (F : Fun K "_law_is_times" "_law_is_times" s_c_is_times f fd) (F_c_is_int : Cal P w K mg base b 1 "_law_is_int" ["_law_value", "_law_low", "_law_high"] S_c_is_int) (n_isinstance : mg "isinstance" = none) (n_tuple : mg "tuple" = none) (n_len : mg "len" = none) (n_range : mg "range" = none) (hlen : ∀ ds Q E, S ds Q E → ds.length = 2)
    (law : ∀ ds Q E, S ds Q E → t_c_is_times S_c_is_int (envOf 4 ds) (fin Q E)) : FnOk P w K mg base (L2.CX P w) 2 f fd ["_law_row_here", "_law_value"] (spV b S) := by
  refine fnV F sc_c_is_times hlen (by decide) (fun cdv A outer s H E hr tk => ?_) law
  have hu := hr.units
  exact (vs_cons (vs_if (VWe.pt (vw_or (vt_not (vt_val (VE.toX (ve_isi (by rfl) n_isinstance (vxs_cons (vx_var (pv 1)) (vxs_cons (VE.toX (ve_tyTuple (by rfl) n_tuple)) vxs_nil)))))) (vw_or1 (vt_ne hu (VE.toX (ve_len (by rfl) n_len (vxs_cons (vx_var (pv 1)) vxs_nil))) (VE.toX (ve_len (by rfl) n_len (vxs_cons (vx_var (pv 0)) vxs_nil)))))))
      (vs_one (vs_ret ve_bl))
      vs_nil)
      (vs_cons (vs_if (vt_ne hu (VN.toX (vn_lc (own := [("_law_one", 2)]) rfl sc_c_is_times.nd (vib_src (vx_var (pv 1))) (blkOk_by (N := N_c_is_times) (sc := defScope s_c_is_times) (by decide +kernel)) (by decide) (fun _ _ _ _ _ => (vg_name (i := 2) sc_c_is_times.nd rfl (.inl rfl))) (fun _ _ _ _ _ => (vts_one (vt_not (vt_val (VE.toX (ve_cal F_c_is_int hr takes0 (by rfl) (va_cons (ve_var (pv 2)) (va_cons ve_int (va_cons (ve_pow (VE.toX ve_int) (VE.toX ve_int)) va_nil))))))))) (fun _ _ _ _ _ => (ve_var (pv 2))))) (VN.toX (vn_lst va_nil)))
      (vs_one (vs_ret ve_bl))
      vs_nil)
      (vs_one (vs_ret (ve_eq hu (VN.toX (vn_lc (own := [("_law_k", 3)]) rfl sc_c_is_times.nd (vib_range2 (by rfl) n_range (vxs_cons (VE.toX ve_int) (vxs_cons (VE.toX (ve_len (by rfl) n_len (vxs_cons (vx_var (pv 1)) vxs_nil))) vxs_nil))) (blkOk_by (N := N_c_is_times) (sc := defScope s_c_is_times) (by decide +kernel)) (by decide) (fun _ _ _ _ _ => (vg_name (i := 3) sc_c_is_times.nd rfl (.inl rfl))) (fun _ _ _ _ _ => (vts_one (vt_gt (VE.toX (ve_ix (vx_var (pv 1)) (VE.toX (ve_sub (vx_var (pv 3)) (VE.toX ve_int))))) (VE.toX (ve_ix (vx_var (pv 1)) (vx_var (pv 3))))))) (fun _ _ _ _ _ => (ve_var (pv 3))))) (VN.toX (vn_lst va_nil)))))))
abbrev s_law_due : Stmt := topS 27
abbrev N_law_due : List Str := ["_law_row_here", "_law_one", "_law_two", "_law_flag", "_law_value", "_law_found", "_law_come", "_law_served", "_law_is_arrival"]
theorem sc_law_due : FnScope N_law_due ["_law_row_here", "_law_one", "_law_two", "_law_flag"] (defScope s_law_due) := ⟨rfl, rfl, rfl, by decide +kernel, rfl, by decide +kernel, by decide +kernel⟩
theorem w_law_due {S : SV} {S_c_is_times : SV} (F : Fun K "_law_due" "_law_due" s_law_due f fd) (F_c_is_times : Cal P w K mg base b 2 "_law_is_times" ["_law_row_here", "_law_value"] S_c_is_times) (n_len : mg "len" = none) (hlen : ∀ ds Q E, S ds Q E → ds.length = 4)
    (law : ∀ ds Q E, S ds Q E → t_law_due S_c_is_times (envOf 9 ds) (fin Q E)) : FnOk P w K mg base (L2.CX P w) 3 f fd ["_law_row_here", "_law_one", "_law_two", "_law_flag"] (spV b S) := by
  refine fnV F sc_law_due hlen (by decide) (fun cdv A outer s H E hr tk => ?_) law
  have hu := hr.units
  exact (vs_cons (vs_for (passes_of rfl) rfl (vi_src (VN.toE (vn_lst (va_cons (ve_var (pv 1)) (va_cons (ve_var (pv 2)) va_nil))))) (vg_name (i := 4) sc_law_due.nd rfl (.inl rfl))
      (vs_one (vs_if (vt_not (vt_val (VE.toX (ve_cal F_c_is_times hr tk (by rfl) (va_cons (ve_var (pv 0)) (va_cons (ve_var (pv 4)) va_nil))))))
      (vs_one (vs_ret (VN.toE (vn_lst (va_cons ve_str (va_cons (ve_var (pv 4)) va_nil))))))
      vs_nil)))
      (vs_cons (vs_parT (is := [5, 6, 7]) rfl (pgs_cons (pg_name (i := 5) sc_law_due.nd rfl (.inl rfl)) (pgs_cons (pg_name (i := 6) sc_law_due.nd rfl (.inl rfl)) (pgs_cons (pg_name (i := 7) sc_law_due.nd rfl (.inl rfl)) pgs_nil))) (vm_sh ve_str (vm_sh ve_int (vm_sh ve_int vm_nil))))
      (vs_cons (vs_while (passes_of rfl) (vt_lt (vx_var (pv 7)) (VE.toX (ve_len (by rfl) n_len (vxs_cons (vx_var (pv 0)) vxs_nil))))
      (vs_cons (vs_asg (i := 8) sc_law_due.nd rfl (.inl rfl) (ve_and (VE.toX (ve_lt (vx_var (pv 6)) (VE.toX (ve_len (by rfl) n_len (vxs_cons (vx_var (pv 0)) vxs_nil))))) (ve_one (ve_le (VE.toX (ve_ix (vx_var (pv 1)) (vx_var (pv 6)))) (VE.toX (ve_ix (vx_var (pv 2)) (vx_var (pv 7))))))))
      (vs_cons (vs_if (VWe.pt (vw_and (vt_val (vx_var (pv 8))) (vw_and (vt_eq hu (VE.toX (ve_ix (vx_var (pv 1)) (vx_var (pv 6)))) (VE.toX (ve_ix (vx_var (pv 2)) (vx_var (pv 7))))) (vw_and1 (vt_isBn (vx_var (pv 3)) (VE.toX ve_bl))))))
      (vs_one (vs_asg (i := 8) sc_law_due.nd rfl (.inl rfl) ve_bl))
      vs_nil)
      (vs_one (vs_if (vt_val (vx_var (pv 8)))
      (vs_one (vs_par2 (i := 5) (j := 6) rfl sc_law_due.nd rfl rfl (by decide) rfl rfl (vm_sh (ve_add (vx_var (pv 5)) (VE.toX ve_str)) (vm_sh (ve_add (vx_var (pv 6)) (VE.toX ve_int)) vm_nil)) (by rfl)))
      (vs_one (vs_if (vt_eq hu (vx_var (pv 7)) (vx_var (pv 6)))
      (vs_one (vs_ret (VN.toE (vn_lst (va_cons ve_str va_nil)))))
      (vs_one (vs_par2 (i := 5) (j := 7) rfl sc_law_due.nd rfl rfl (by decide) rfl rfl (vm_sh (ve_add (vx_var (pv 5)) (VE.toX ve_str)) (vm_sh (ve_add (vx_var (pv 7)) (VE.toX ve_int)) vm_nil)) (by rfl))))))))))
      (vs_one (vs_ret (ve_var (pv 5)))))))
abbrev s_law : Stmt := topS 30
abbrev N_law : List Str := ["_law_script", "_law_crank_here", "_law_turn", "_law_row_here", "_law_wide", "_law_one", "_law_two", "_law_later", "_law_pairs", "_law_first", "_law_second", "_law_shown", "_law_flag", "_law_k"]
theorem sc_law : FnScope N_law ["_law_script"] (defScope s_law) := ⟨rfl, rfl, rfl, by decide +kernel, rfl, by decide +kernel, by decide +kernel⟩
theorem w_law {S_c_row : SV} {S_law_wind : SV} {S_law_times : SV} {S_law_bent : SV} {S_law_asked : SV} {S_law_due : SV} (F_c_row : Cal P w K mg base b 2 "_law_row" ["_law_crank_here", "_law_size"] S_c_row) (F_law_wind : Cal P w K mg base b 1 "_law_wind" ["_law_crank_here", "_law_many"] S_law_wind) (F_law_times : Cal P w K mg base b 2 "_law_times" ["_law_crank_here", "_law_row_here", "_law_wide", "_law_ahead"] S_law_times) (F_law_bent : Cal P w K mg base b 3 "_law_bent" ["_law_crank_here", "_law_times_here"] S_law_bent) (F_law_asked : Cal P w K mg base b 5 "_law_asked" ["_law_row_here", "_law_one", "_law_two", "_law_flag"] S_law_asked) (F_law_due : Cal P w K mg base b 3 "_law_due" ["_law_row_here", "_law_one", "_law_two", "_law_flag"] S_law_due) (n_range : mg "range" = none) (n_tuple : mg "tuple" = none) (n_len : mg "len" = none) (n_max : mg "max" = none) (n_repr : mg "repr" = none) (cdv : Value) (A : Around) (outer : List Env) (s : Shared) (H : Hp) (E : XK) (hr : Room 5 (A.deeper (envOfC "law" (defScope s_law) s.heap.objs.size f cdv))) (hgd : (A.deeper (envOfC "law" (defScope s_law) s.heap.objs.size f cdv)).guards = some []) (tk : Takes (cxOf (L2.CX P w) P w K mg base N_law "law" (defScope s_law) f cdv A outer s H E) (WF E)) : VSs (cxOf (L2.CX P w) P w K mg base N_law "law" (defScope s_law) f cdv A outer s H E) b (WF E) (defBody s_law).tail (t_law S_c_row S_law_wind S_law_times S_law_bent S_law_asked S_law_due) := by
  have hu := hr.units
  exact (vs_cons (vs_for (passes_of rfl) rfl (vi_range1 (by rfl) n_range (vxs_cons (VE.toX ve_int) vxs_nil)) (vg_name (i := 2) sc_law.nd rfl (.inl rfl))
      (vs_cons (vs_asg (i := 3) sc_law.nd rfl (.inl rfl) (ve_cal F_c_row hr tk (by rfl) (va_cons (ve_var (pv 1)) (va_cons (ve_ix (VN.toX (vn_lst (va_cons ve_int (va_cons ve_int (va_cons ve_int (va_cons ve_int va_nil)))))) (VE.toX (ve_mod (vx_var (pv 2)) (VE.toX ve_int)))) va_nil))))
      (vs_cons (vs_asg (i := 4) sc_law.nd rfl (.inl rfl) (ve_ix (VN.toX (vn_lst (va_cons ve_int (va_cons ve_int (va_cons ve_int (va_cons (ve_pow (VE.toX ve_int) (VE.toX ve_int)) va_nil)))))) (VE.toX (ve_cal F_law_wind hr tk (by rfl) (va_cons (ve_var (pv 1)) (va_cons ve_int va_nil))))))
      (vs_cons (vs_asg (i := 5) sc_law.nd rfl (.inr rfl) (ve_cal F_law_times hr tk (by rfl) (va_cons (ve_var (pv 1)) (va_cons (ve_var (pv 3)) (va_cons (ve_var (pv 4)) (va_cons (ve_cal F_law_wind hr tk (by rfl) (va_cons (ve_var (pv 1)) (va_cons ve_int va_nil))) va_nil))))))
      (vs_cons (vs_asg (i := 6) sc_law.nd rfl (.inr rfl) (ve_cal F_law_times hr tk (by rfl) (va_cons (ve_var (pv 1)) (va_cons (ve_var (pv 3)) (va_cons (ve_var (pv 4)) (va_cons (ve_ix (VN.toX (vn_lst (va_cons (ve_cal F_law_wind hr tk (by rfl) (va_cons (ve_var (pv 1)) (va_cons ve_int va_nil))) (va_cons (ve_ix (vx_var (pv 5)) (VE.toX (ve_neg (VE.toX ve_int)))) va_nil)))) (VE.toX (ve_cal F_law_wind hr tk (by rfl) (va_cons (ve_var (pv 1)) (va_cons ve_int va_nil))))) va_nil))))))
      (vs_cons (vs_asg (i := 7) sc_law.nd rfl (.inl rfl) (ve_tupleC (by rfl) n_tuple (vxs_cons (VN.toX (vn_lc (own := [("_law_k", 13)]) rfl sc_law.nd (vib_range1 (by rfl) n_range (vxs_cons (VE.toX (ve_len (by rfl) n_len (vxs_cons (vx_var (pv 3)) vxs_nil))) vxs_nil)) (blkOk_by (N := N_law) (sc := defScope s_law) (by decide +kernel)) (by decide) (fun _ _ _ _ _ => (vg_name (i := 13) sc_law.nd rfl (.inl rfl))) (fun _ _ _ _ _ => vts_nil) (fun _ _ _ _ _ => (ve_max rfl (by rfl) n_max (vxs_cons (VE.toX (ve_ix (vx_var (pv 5)) (vx_var (pv 13)))) (vxs_cons (VE.toX (ve_ix (vx_var (pv 6)) (vx_var (pv 13)))) vxs_nil)))))) vxs_nil)))
      (vs_cons (vs_asg (i := 8) sc_law.nd rfl (.inl rfl) (VN.toE (vn_lst (va_cons (ve_tup (va_cons (ve_var (pv 5)) (va_cons (ve_var (pv 6)) va_nil))) (va_cons (ve_tup (va_cons (ve_var (pv 5)) (va_cons (ve_var (pv 7)) va_nil))) (va_cons (ve_tup (va_cons (ve_var (pv 5)) (va_cons (ve_var (pv 5)) va_nil))) (va_cons (ve_tup (va_cons (ve_var (pv 6)) (va_cons (ve_var (pv 5)) va_nil))) (va_cons (ve_tup (va_cons (ve_cal F_law_bent hr tk (by rfl) (va_cons (ve_var (pv 1)) (va_cons (ve_var (pv 5)) va_nil))) (va_cons (ve_var (pv 6)) va_nil))) va_nil))))))))
      (vs_cons (vs_asg (i := 8) sc_law.nd rfl (.inl rfl) (ve_add (vx_var (pv 8)) (VN.toX (vn_lst (va_cons (ve_tup (va_cons (ve_var (pv 5)) (va_cons (ve_cal F_law_bent hr tk (by rfl) (va_cons (ve_var (pv 1)) (va_cons (ve_var (pv 6)) va_nil))) va_nil))) (va_cons (ve_tup (va_cons (ve_cal F_law_bent hr tk (by rfl) (va_cons (ve_var (pv 1)) (va_cons (ve_var (pv 5)) va_nil))) (va_cons (ve_cal F_law_bent hr tk (by rfl) (va_cons (ve_var (pv 1)) (va_cons (ve_var (pv 6)) va_nil))) va_nil))) va_nil))))))
      (vs_one (vs_for (passes_of rfl) rfl (vi_src (ve_var (pv 8))) (vg_tup rfl (vgs_cons (vg_name (i := 9) sc_law.nd rfl (.inl rfl)) (vgs_cons (vg_name (i := 10) sc_law.nd rfl (.inl rfl)) vgs_nil)))
      (vs_cons (vs_asg (i := 11) sc_law.nd rfl (.inl rfl) (ve_repr hu hgd (by rfl) n_repr (vxs_cons (VN.toX (vn_lst (va_cons (ve_var (pv 3)) (va_cons (ve_var (pv 9)) (va_cons (ve_var (pv 10)) va_nil))))) vxs_nil)))
      (vs_cons (vs_for (passes_of rfl) rfl (vi_src (VN.toE (vn_lst (va_cons ve_non (va_cons ve_bl (va_cons ve_bl va_nil)))))) (vg_name (i := 12) sc_law.nd rfl (.inl rfl))
      (vs_one (vs_if (vt_ne hu (VE.toX (ve_repr hu hgd (by rfl) n_repr (vxs_cons (VE.toX (ve_cal F_law_asked hr tk (by rfl) (va_cons (ve_var (pv 3)) (va_cons (ve_var (pv 9)) (va_cons (ve_var (pv 10)) (va_cons (ve_var (pv 12)) va_nil)))))) vxs_nil))) (VE.toX (ve_repr hu hgd (by rfl) n_repr (vxs_cons (VE.toX (ve_cal F_law_due hr tk (by rfl) (va_cons (ve_var (pv 3)) (va_cons (ve_var (pv 9)) (va_cons (ve_var (pv 10)) (va_cons (ve_var (pv 12)) va_nil)))))) vxs_nil))))
      (vs_one (vs_ret ve_bl))
      vs_nil)))
      (vs_one (vs_if (vt_ne hu (VE.toX (ve_repr hu hgd (by rfl) n_repr (vxs_cons (VN.toX (vn_lst (va_cons (ve_var (pv 3)) (va_cons (ve_var (pv 9)) (va_cons (ve_var (pv 10)) va_nil))))) vxs_nil))) (vx_var (pv 11)))
      (vs_one (vs_ret ve_bl))
      vs_nil))))))))))))))
      (vs_one (vs_ret ve_bl)))
end
end LawP
set_option Elab.async false
set_option linter.all false
set_option maxRecDepth 100000
set_option maxHeartbeats 4000000
namespace LawP
open PySem PySem.Spec PyProof.Rows L2 VL
abbrev sCrank : Stmt := topS 19
abbrev sWind : Stmt := topS 20
theorem scCrank : FnScope ["_law_script", "_law_one", "_law_two", "_law_cell"] ["_law_script"] (defScope sCrank) := ⟨rfl, rfl, rfl, by decide +kernel, rfl, by decide +kernel, by decide +kernel⟩
theorem scWind : FnScope ["_law_crank_here", "_law_many", "_law_cell"] ["_law_crank_here", "_law_many"] (defScope sWind) := ⟨rfl, rfl, rfl, by decide +kernel, rfl, by decide +kernel, by decide +kernel⟩
section
variable {P : Program} {w : World} {K : PySem.W.Frag} {mg : Str → Option Value} {base : Heap} {f f2 : Addr} {fd fd2 : FuncData}
theorem ok_wind {k : Nat} (F : Fun K "_law_wind" "_law_wind" sWind f fd) : FnOk P w K mg base (L2.CX P w) (k + 1) f fd ["_law_crank_here", "_law_many"] spWind := by
  refine F.okX scWind (fun vs H Q E h => ?_) (fun cdv A outer s H vs Q E hr h => ?_)
  · obtain ⟨r, l, gs, m, rfl, _⟩ := h
    rfl
  · have hu := hr.units
    refine ⟨_, pss_cons (ps_if (pt_cmpR op_lt (pv 1) pe_int (nomark _)) (pss_one (ps_ret pe_int)) pss_nil)
      (pss_cons (ps_if (pt_cmpR (op_neP hu) (pe_ix ix_list (pv 0) pe_int (fun _ _ => rfl)) (pe_lst pa_nil) (nomark _))
        (pss_cons (ps_set (i := 2) scWind.nd rfl (.inl rfl) (pe_bm PySem.F.plainAttrs_list PySem.F.slot_list_pop PySem.F.type_list_pop mt_popAt (pe_ix ix_list (pv 0) pe_int (fun _ _ => rfl)) (pa_cons pe_int pa_nil)))
        (pss_cons (ps_if (pt_cmpR op_ge (pv 2) (pv 1) (nomark _))
          (pss_one (ps_expr (pe_bm PySem.F.plainAttrs_list PySem.F.slot_list_insert PySem.F.type_list_insert mt_insert (pe_ix ix_list (pv 0) pe_int (fun _ _ => rfl)) (pa_cons pe_int (pa_cons (pe_op op_fdivN (pv 2) (pv 1)) pa_nil))))) pss_nil)
        (pss_one (ps_ret (pe_op op_mod (pv 2) (pv 1)))))) pss_nil)
      (pss_cons (ps_asg (pe_op op_add (pe_op op_mod (pe_op op_mul (pe_ix ix_list (pv 0) pe_int (fun _ _ => rfl)) pe_int) pe_int) pe_int) (pg_sub (pv 0) pe_int set_list (by intro _; rfl)) (by rfl) (by rfl) (by rfl))
      (pss_cons (ps_asg (pe_op op_add (pe_op op_mod (pe_op op_mul (pe_ix ix_list (pv 0) pe_int (fun _ _ => rfl)) pe_int) pe_int) pe_int) (pg_sub (pv 0) pe_int set_list (by intro _; rfl)) (by rfl) (by rfl) (by rfl))
      (pss_one (ps_ret (pe_op op_mod (pe_op op_fdivN (pe_op op_add (pe_op op_mul (pe_ix ix_list (pv 0) pe_int (fun _ _ => rfl)) pe_int) (pe_ix ix_list (pv 0) pe_int (fun _ _ => rfl))) pe_int) (pv 1))))))), ?_⟩
    obtain ⟨r, l, gs, m, rfl, hb, m0, m1, q⟩ := h
    have nrl := hb.ne
    have hb0 := hb
    obtain ⟨x, n, hr1, hl1, hz1⟩ := hb
    have a0 : ∀ a b c : V, atI [a, b, c] 0 = some a := fun _ _ _ => rfl
    have a1 : ∀ a b c : V, atI [a, b, c] 1 = some b := fun _ _ _ => rfl
    have a2 : ∀ a b c : V, atI [a, b, c] 2 = some c := fun _ _ _ => rfl
    refine ⟨.int m, rfl, m, 2, rfl, rfl, _, rfl, ite2 (fun c => ?_) (fun c => ?_)⟩
    · exact q _ _ _ .refl hb0 (Int.le_refl _) m0
    refine ⟨.ref r, rfl, r, _, _, .ref l, rfl, rfl, SqL.of hr1, a2 _ _ _, Nat.zero_le _, fun p hp => ?_⟩
    have pr : r ≠ p := ne_of_none hr1 hp
    have pl : l ≠ p := ne_of_none hl1 hp
    have hr2 : (upd H p (.lst [])) r = some (.lst [.int x, .int n, .ref l]) := by rw [upd_ne pr]; exact hr1
    have hl2 : (upd H p (.lst [])) l = some (.lst (gs.map V.int)) := by rw [upd_ne pl]; exact hl1
    have kp2 : KeepJ r l H (upd H p (.lst [])) := KeepJ.refl.upd (.inr (.inr hp))
    refine ⟨.list (gs.map PyData.int), .list [], .lst hl2 not_false (.of_ints _), .lst upd_same not_false .nil, (by simp only [PyData.plain]; exact plain_ints gs), rfl, .inr (by decide), _, rfl, ?_⟩
    generalize upd H p (.lst []) = H2 at hr2 hl2 kp2
    cases gs with
    | cons g gs =>
      refine ⟨.ref r, rfl, r, _, _, .ref l, rfl, rfl, SqL.of hr2, a2 _ _ _, .inl ⟨rfl, _, SqL.of hl2⟩, ?_⟩
      refine ⟨l, (g :: gs).map V.int, 0, 0, .int g, rfl, rfl, hl2, by decide, by decide, by simp [seqIndex?], rfl, ?_⟩
      have hr3 : (upd H2 l (.lst (gs.map V.int))) r = some (.lst [.int x, .int n, .ref l]) := by rw [upd_ne nrl]; exact hr2
      have hl3 : (upd H2 l (.lst (gs.map V.int))) l = some (.lst (gs.map V.int)) := upd_same
      have kp3 : KeepJ r l H (upd H2 l (.lst (gs.map V.int))) := kp2.upd (.inr (.inl rfl))
      have e3 : ((g :: gs).map V.int).eraseIdx 0 = gs.map V.int := rfl
      rw [e3]
      generalize upd H2 l (.lst (gs.map V.int)) = H3 at hr3 hl3 kp3
      have hz1' : gs.length + 1 ≤ 63 := hz1
      refine ⟨.int g, rfl, .int m, rfl, g, m, rfl, rfl, _, rfl, ite2 (fun c => ?_) (fun c => ?_)⟩
      · refine ⟨.ref r, rfl, r, _, _, .ref l, rfl, rfl, SqL.of hr3, a2 _ _ _, .inl ⟨rfl, _, SqL.of hl3⟩, .int g, rfl, .int m, rfl, g, m, rfl, rfl, ⟨by omega, by omega⟩, ?_⟩
        have hl : gs.length < sizeLine := Nat.lt_of_le_of_lt (show gs.length ≤ 63 by omega) (by decide)
        refine ⟨l, _, 0, _, rfl, rfl, hl3, by rw [List.length_map]; exact hl, Int.le_refl _, by decide, ?_⟩
        have b4 : crankAt r l (g.fdiv m :: gs) (upd H3 l (.lst ((g.fdiv m :: gs).map V.int))) := ⟨x, n, by rw [upd_ne nrl]; exact hr3, upd_same, hz1⟩
        exact ⟨.int g, rfl, .int m, rfl, g, m, rfl, rfl, m0, q _ _ _ (kp3.upd (.inr (.inl rfl))) b4 (Int.emod_nonneg _ (by omega)) (Int.emod_lt_of_pos _ m0)⟩
      · exact ⟨.int g, rfl, .int m, rfl, g, m, rfl, rfl, m0, q _ _ _ kp3 ⟨x, n, hr3, hl3, by omega⟩ (Int.emod_nonneg _ (by omega)) (Int.emod_lt_of_pos _ m0)⟩
    | nil =>
      refine ⟨.ref r, rfl, r, _, _, .int x, rfl, rfl, SqL.of hr2, a0 _ _ _, x, 16807, rfl, rfl, .inr ⟨by decide, by decide⟩, _, 2147483647, rfl, rfl, (show (0 : Int) < 2147483647 by decide), _, 1, rfl, rfl, ?_⟩
      refine ⟨.ref r, rfl, r, _, 0, 0, rfl, rfl, hr2, rfl, ?_⟩
      dsimp only
      generalize x * 16807 % 2147483647 + 1 = x2
      have kp3 : KeepJ r l H (upd H2 r (.lst [.int x2, .int n, .ref l])) := kp2.upd (.inl rfl)
      have hr3 : upd H2 r (.lst [.int x2, .int n, .ref l]) r = some (.lst [.int x2, .int n, .ref l]) := upd_same
      have hl3 : upd H2 r (.lst [.int x2, .int n, .ref l]) l = some (.lst (([] : List Int).map V.int)) := by rw [upd_ne nrl.symm]; exact hl2
      have e3 : ([V.int x, .int n, .ref l]).set 0 (.int x2) = [.int x2, .int n, .ref l] := rfl
      rw [e3]
      generalize upd H2 r (.lst [.int x2, .int n, .ref l]) = H3 at hr3 hl3 kp3
      refine ⟨.ref r, rfl, r, _, _, .int n, rfl, rfl, SqL.of hr3, a1 _ _ _, n, 40692, rfl, rfl, .inr ⟨by decide, by decide⟩, _, 2147483399, rfl, rfl, (show (0 : Int) < 2147483399 by decide), _, 1, rfl, rfl, ?_⟩
      refine ⟨.ref r, rfl, r, _, 1, 1, rfl, rfl, hr3, rfl, ?_⟩
      dsimp only
      generalize n * 40692 % 2147483399 + 1 = n2
      have kp4 : KeepJ r l H (upd H3 r (.lst [.int x2, .int n2, .ref l])) := kp3.upd (.inl rfl)
      have hr4 : upd H3 r (.lst [.int x2, .int n2, .ref l]) r = some (.lst [.int x2, .int n2, .ref l]) := upd_same
      have hl4 : upd H3 r (.lst [.int x2, .int n2, .ref l]) l = some (.lst (([] : List Int).map V.int)) := by rw [upd_ne nrl.symm]; exact hl3
      have e4 : ([V.int x2, .int n, .ref l]).set 1 (.int n2) = [.int x2, .int n2, .ref l] := rfl
      rw [e4]
      generalize upd H3 r (.lst [.int x2, .int n2, .ref l]) = H4 at hr4 hl4 kp4
      refine ⟨.ref r, rfl, r, _, _, .int x2, rfl, rfl, SqL.of hr4, a0 _ _ _, x2, 2147483399, rfl, rfl, .inr ⟨by decide, by decide⟩, .ref r, rfl, r, _, _, .int n2, rfl, rfl, SqL.of hr4, a1 _ _ _, _, n2, rfl, rfl, _, 1024, rfl, rfl, ⟨by decide, by decide⟩, .int m, rfl, _, m, rfl, rfl, m0, ?_⟩
      exact q _ [] _ kp4 ⟨x2, n2, hr4, hl4, by simp⟩ (Int.emod_nonneg _ (by omega)) (Int.emod_lt_of_pos _ m0)
theorem ok_crank {k : Nat} (F : Fun K "_law_crank" "_law_crank" sCrank f fd) (ml : mg "len" = none) : FnOk P w K mg base (L2.CX P w) (k + 1) f fd ["_law_script"] (spCrank K) := by
  refine F.okX scCrank (fun vs H Q E h => ?_) (fun cdv A outer s H vs Q E hr h => ?_)
  · obtain ⟨a, ns, rfl, _⟩ := h
    rfl
  · have hu := hr.units
    refine ⟨_, pss_cons (ps_par (i := 1) (j := 2) rfl scCrank.nd rfl rfl (by decide) rfl rfl (pa_cons (pe_op op_add pe_int (pe_callB call_len_seq (by rfl) ml PySem.boot_len (pa_cons (pv 0) pa_nil))) (pa_cons pe_int pa_nil)) (by rfl))
      (pss_cons (ps_for (passes_of rfl) rfl (pi_list (pv 0)) (pg_name (i := 3) scCrank.nd rfl (.inl rfl))
        (pss_cons (ps_set (i := 1) scCrank.nd rfl (.inl rfl) (pe_op op_mod (pe_op op_add (pe_op op_mul (pv 1) pe_int) (pe_op op_mod (pv 3) pe_int)) pe_int))
        (pss_one (ps_set (i := 2) scCrank.nd rfl (.inl rfl) (pe_op op_mod (pe_op op_add (pe_op op_add (pe_op op_mul (pv 2) pe_int) (pe_op op_mod (pv 3) pe_int)) pe_int) pe_int)))))
      (pss_one (ps_ret (pe_lst (pa_cons (pv 1) (pa_cons (pv 2) (pa_cons (pe_lc (own := [("_law_cell", 3)]) rfl scCrank.nd (pi_list (pv 0)) (blkOk_by (N := ["_law_script", "_law_one", "_law_two", "_law_cell"]) (sc := defScope sCrank) (by decide +kernel))
        (fun _ _ _ _ _ => pg_name (i := 3) scCrank.nd rfl (.inl rfl)) (fun _ _ _ _ _ => pts_one (pt_cmpR op_ge (pv 3) (pe_op op_pow pe_int pe_int) (nomark _))) (fun _ _ _ _ _ => pv 3)) pa_nil))))))), ?_⟩
    obtain ⟨a, ns, rfl, hS, hl, q⟩ := h
    refine ⟨.ref a, rfl, a, _, rfl, .inl hS, 521288629, _, rfl, rfl, _, _, rfl, ?_⟩
    refine ⟨.ref a, rfl, a, rfl, ⟨_, hS⟩, ?_⟩
    refine for_list (xs := ns.map V.int) (fun i σ H' => ∃ (l mx : Int) (x4 : Option V), σ = [some (.ref a), some (.int l), some (.int mx), x4] ∧ H' = H) ⟨_, 88675123, none, rfl, rfl⟩ (fun i σ H' _ ⟨_, _, _, _, e⟩ => by rw [e]; exact hS) (fun i x σ H' hx iv => ?_) (fun σ H' iv => ?_)
    · obtain ⟨l, mx, x4, rfl, rfl⟩ := iv
      rw [List.getElem?_map] at hx
      cases em : ns[i]? with
      | none => rw [em] at hx; cases hx
      | some c =>
        rw [em] at hx
        cases hx
        refine ⟨.int l, rfl, l, 16807, rfl, rfl, .inr ⟨by decide, by decide⟩, .int c, rfl, c, 2147483629, rfl, rfl, (show (0 : Int) < 2147483629 by decide), _, _, rfl, rfl, _, 2147483647, rfl, rfl, (show (0 : Int) < 2147483647 by decide), ?_⟩
        refine ⟨.int mx, rfl, mx, 40692, rfl, rfl, .inr ⟨by decide, by decide⟩, .int c, rfl, c, 2147483549, rfl, rfl, (show (0 : Int) < 2147483549 by decide), _, _, rfl, rfl, _, 7, rfl, rfl, _, 2147483399, rfl, rfl, (show (0 : Int) < 2147483399 by decide), ?_⟩
        exact ⟨_, _, _, rfl, rfl⟩
    · obtain ⟨l, mx, x4, rfl, rfl⟩ := iv
      refine ⟨.int l, rfl, .int mx, rfl, .ref a, rfl, a, rfl, ⟨_, hS⟩, fun D hD => ?_⟩
      have nd : ∀ c o, H' c = some o → c ≠ D := fun c o e z => by rw [z, hD] at e; cases e
      have upS : ∀ H2, (∀ c o, H' c = some o → H2 c = some o) → SqL K H2 a (ns.map V.int) := fun H2 k => hS.imp (fun r => r.imp (k _ _) fun ⟨o, e⟩ => ⟨o, k _ _ e⟩) id
      refine lc_list (xs := ns.map V.int) (fun i H2 => (∀ c o, H' c = some o → H2 c = some o) ∧ H2 D = some (.lst ((bigs (10 ^ 18) (ns.take i)).map V.int))) ?_ (fun i H2 _ h => upS H2 h.1) ?_ ?_
      · exact ⟨fun c o e => by rw [upd_ne (nd c o e)]; exact e, by rw [upd_same]; rfl⟩
      · intro i x H2 hx ⟨k, e3⟩
        rw [List.getElem?_map] at hx
        cases em : ns[i]? with
        | none => rw [em] at hx; cases hx
        | some c =>
          rw [em] at hx
          cases hx
          have e5 : bigs (10 ^ 18) (ns.take (i + 1)) = bigs (10 ^ 18) (ns.take i) ++ bigs (10 ^ 18) [c] := by
            rw [List.take_add_one, em]
            exact List.filter_append ..
          refine ⟨rfl, .int c, rfl, 10, 18, rfl, rfl, ⟨by decide, by decide, by decide⟩, c, _, rfl, rfl, _, rfl, ?_⟩
          by_cases hc : (10 : Int) ^ 18 ≤ c
          · have hd : decide ((10 : Int) ^ ((18 : Int).toNat) ≤ c) = true := decide_eq_true hc
            rw [hd]
            dsimp only
            rw [if_pos rfl]
            refine ⟨.int c, rfl, _, e3, ?_, fun b o e => by rw [upd_ne (nd b o e)]; exact k b o e, ?_⟩
            · rw [List.length_map]
              have h1 : (bigs (10 ^ 18) (ns.take i)).length ≤ (ns.take i).length := List.length_filter_le _ _
              have h2 : (ns.take i).length ≤ 63 := by rw [List.length_take]; omega
              exact Nat.lt_of_le_of_lt (Nat.le_trans h1 h2) (by decide)
            · rw [upd_same, e5]
              have e6 : bigs (10 ^ 18) [c] = [c] := by unfold bigs; rw [List.filter_cons_of_pos (by simpa using hc)]; rfl
              rw [e6, List.map_append]
              rfl
          · have hd : decide ((10 : Int) ^ ((18 : Int).toNat) ≤ c) = false := decide_eq_false hc
            rw [hd]
            dsimp only
            rw [if_neg Bool.false_ne_true]
            refine ⟨k, ?_⟩
            rw [e3, e5]
            have e6 : bigs (10 ^ 18) [c] = [] := by unfold bigs; rw [List.filter_cons_of_neg (by simpa using hc)]; rfl
            rw [e6, List.append_nil]
      · intro H2 ⟨k, e3⟩
        rw [List.length_map, List.take_length] at e3
        refine ⟨Nat.le_trans (show 3 ≤ 1000 by decide) (by decide), fun r hr => ?_⟩
        have hbl : (bigs (10 ^ 18) ns).length ≤ 63 := Nat.le_trans (List.length_filter_le _ _) hl
        exact q r D _ (fun c o e => by rw [upd_ne (ne_of_none (k c o e) hr)]; exact k c o e) ⟨_, l, mx, upd_same, by rw [upd_ne (ne_of_none e3 hr)]; exact e3, hbl⟩
end
end LawP
set_option Elab.async false
set_option linter.all false
set_option maxRecDepth 100000
set_option maxHeartbeats 4000000
namespace LawP
open PySem PySem.Spec PyProof.Rows L2 VL
theorem all_mk {l : PySem.W.OpenLaw} {w : World} {K : PySem.W.Frag} {h : Heap} {mg : Str → Option Value} {fa : Addr} (X : K.In h) (G : h.Ns mainGlobals mg) (hfa : mg "law" = some (.ref fa))
    (d19 : DefK K "_law_crank" (topS 19)) (d20 : DefK K "_law_wind" (topS 20)) (d21 : DefK K "_law_row" (topS 21)) (d28 : DefK K "_law_times" (topS 28)) (d22 : DefK K "_law_odd" (topS 22)) (d29 : DefK K "_law_bent" (topS 29)) (d14 : DefK K "is_integer" (topS 14)) (d16 : DefK K "check_times" (topS 16)) (d17 : DefW K "timed_word" (topS 17) "service_first" (.bl false)) (d24 : DefK K "_law_error" (topS 24)) (d25 : DefK K "_law_asked" (topS 25)) (d23 : DefK K "_law_is_int" (topS 23)) (d26 : DefK K "_law_is_times" (topS 26)) (d27 : DefK K "_law_due" (topS 27)) (d30 : DefK K "law" (topS 30))
    {t0 : Tok} (m0 : PySem.W.nsIn K mainGlobals "MAX_GROUP" = some (some (.int 1000000000 t0))) {t1 : Tok} (m1 : PySem.W.nsIn K mainGlobals "SERVICE" = some (some (.str "s" t1))) {t2 : Tok} (m2 : PySem.W.nsIn K mainGlobals "ARRIVAL" = some (some (.str "a" t2)))
    (z_tuple : PySem.W.nsIn K mainGlobals "tuple" = some none) (z_range : PySem.W.nsIn K mainGlobals "range" = some none) (z_len : PySem.W.nsIn K mainGlobals "len" = some none) (z_min : PySem.W.nsIn K mainGlobals "min" = some none) (z_list : PySem.W.nsIn K mainGlobals "list" = some none) (z_isinstance : PySem.W.nsIn K mainGlobals "isinstance" = some none) (z_bool : PySem.W.nsIn K mainGlobals "bool" = some none) (z_int : PySem.W.nsIn K mainGlobals "int" = some none) (z_all : PySem.W.nsIn K mainGlobals "all" = some none) (z_sorted : PySem.W.nsIn K mainGlobals "sorted" = some none) (z_ValueError : PySem.W.nsIn K mainGlobals "ValueError" = some none) (z_max : PySem.W.nsIn K mainGlobals "max" = some none) (z_repr : PySem.W.nsIn K mainGlobals "repr" = some none) (z_abs : PySem.W.nsIn K mainGlobals "abs" = some none) (R_BadTimes : Rai1 K "BadTimes" "BadTimes.__init__" "value" s_BadTimes) (R_NoHistory : Rai0 K "NoHistory") (Q_BadWord : TstK K "BadWord") (Q_NoPerson : TstK K "NoPerson") (Q_BadTimes : TstK K "BadTimes") (Q_NoOrder : TstK K "NoOrder") (Q_Impossible : TstK K "Impossible") (Q_NoHistory : TstK K "NoHistory") (Q_TooLarge : TstK K "TooLarge") (Q_BadCount : TstK K "BadCount") (Q_LineError : TstK K "LineError") (S_BadTimes_BadWord : SubK K "BadTimes" "BadWord") (S_BadTimes_NoPerson : SubK K "BadTimes" "NoPerson") (S_BadTimes_BadTimes : SubK K "BadTimes" "BadTimes") (S_BadTimes_NoOrder : SubK K "BadTimes" "NoOrder") (S_BadTimes_Impossible : SubK K "BadTimes" "Impossible") (S_BadTimes_NoHistory : SubK K "BadTimes" "NoHistory") (S_BadTimes_TooLarge : SubK K "BadTimes" "TooLarge") (S_BadTimes_BadCount : SubK K "BadTimes" "BadCount") (S_BadTimes_LineError : SubK K "BadTimes" "LineError") (S_NoHistory_BadWord : SubK K "NoHistory" "BadWord") (S_NoHistory_NoPerson : SubK K "NoHistory" "NoPerson") (S_NoHistory_BadTimes : SubK K "NoHistory" "BadTimes") (S_NoHistory_NoOrder : SubK K "NoHistory" "NoOrder") (S_NoHistory_Impossible : SubK K "NoHistory" "Impossible") (S_NoHistory_NoHistory : SubK K "NoHistory" "NoHistory") (S_NoHistory_TooLarge : SubK K "NoHistory" "TooLarge") (S_NoHistory_BadCount : SubK K "NoHistory" "BadCount") (S_NoHistory_LineError : SubK K "NoHistory" "LineError") :
    ∃ fd : FuncData, (∀ (s : Shared) (v : Value), BindsTo s fd ⟨[v], []⟩ [("_law_script", v)]) ∧ ∀ base : Heap, K.In base → base.Ns mainGlobals mg → FnG l.prog w K mg base 6 fa fd ["_law_script"] (spLaw K) := by
  obtain ⟨f30, oc, kV, doc, pm, cdv, ct, od, an, osl, a, ql, qc, qp⟩ := d30.ex
  have e := hfa.symm.trans (PySem.W.mg_of X G a)
  cases e
  have y_tuple := PySem.W.mg_none_of X G z_tuple
  have y_range := PySem.W.mg_none_of X G z_range
  have y_len := PySem.W.mg_none_of X G z_len
  have y_min := PySem.W.mg_none_of X G z_min
  have y_list := PySem.W.mg_none_of X G z_list
  have y_isinstance := PySem.W.mg_none_of X G z_isinstance
  have y_bool := PySem.W.mg_none_of X G z_bool
  have y_int := PySem.W.mg_none_of X G z_int
  have y_all := PySem.W.mg_none_of X G z_all
  have y_sorted := PySem.W.mg_none_of X G z_sorted
  have y_ValueError := PySem.W.mg_none_of X G z_ValueError
  have y_max := PySem.W.mg_none_of X G z_max
  have y_repr := PySem.W.mg_none_of X G z_repr
  have y_abs := PySem.W.mg_none_of X G z_abs
  have c0 := PySem.W.mg_of X G m0
  have c1 := PySem.W.mg_of X G m1
  have c2 := PySem.W.mg_of X G m2
  obtain ⟨f19, v19, F19, g19, p19, e19⟩ := d19.use X G
  have B19 := F19.binds (ps := ["_law_script"]) fun _ _ _ _ _ _ us hl => match us, hl with | [_], _ => rfl
  obtain ⟨f20, v20, F20, g20, p20, e20⟩ := d20.use X G
  have B20 := F20.binds (ps := ["_law_crank_here", "_law_many"]) fun _ _ _ _ _ _ us hl => match us, hl with | [_, _], _ => rfl
  obtain ⟨f21, v21, F21, g21, p21, e21⟩ := d21.use X G
  have B21 := F21.binds (ps := ["_law_crank_here", "_law_size"]) fun _ _ _ _ _ _ us hl => match us, hl with | [_, _], _ => rfl
  obtain ⟨f28, v28, F28, g28, p28, e28⟩ := d28.use X G
  have B28 := F28.binds (ps := ["_law_crank_here", "_law_row_here", "_law_wide", "_law_ahead"]) fun _ _ _ _ _ _ us hl => match us, hl with | [_, _, _, _], _ => rfl
  obtain ⟨f22, v22, F22, g22, p22, e22⟩ := d22.use X G
  have B22 := F22.binds (ps := ["_law_crank_here"]) fun _ _ _ _ _ _ us hl => match us, hl with | [_], _ => rfl
  obtain ⟨f29, v29, F29, g29, p29, e29⟩ := d29.use X G
  have B29 := F29.binds (ps := ["_law_crank_here", "_law_times_here"]) fun _ _ _ _ _ _ us hl => match us, hl with | [_, _], _ => rfl
  obtain ⟨f14, v14, F14, g14, p14, e14⟩ := d14.use X G
  have B14 := F14.binds (ps := ["value", "low", "high"]) fun _ _ _ _ _ _ us hl => match us, hl with | [_, _, _], _ => rfl
  obtain ⟨f16, v16, F16, g16, p16, e16⟩ := d16.use X G
  have B16 := F16.binds (ps := ["row", "value"]) fun _ _ _ _ _ _ us hl => match us, hl with | [_, _], _ => rfl
  obtain ⟨f17, v17, F17, g17, p17, ⟨ds17, hv17, bb17⟩, bk17⟩ := d17.use (ps := ["row", "arrivals", "services"]) X G (fun _ _ _ _ _ _ us _ hl => match us, hl with | [_, _, _], _ => ⟨_, _, _, _, _, _, rfl, rfl, rfl⟩) (fun _ _ _ _ _ _ us _ hl => match us, hl with | [_, _, _], _ => rfl)
  obtain ⟨f24, v24, F24, g24, p24, e24⟩ := d24.use X G
  have B24 := F24.binds (ps := ["_law_error_here"]) fun _ _ _ _ _ _ us hl => match us, hl with | [_], _ => rfl
  obtain ⟨f25, v25, F25, g25, p25, e25⟩ := d25.use X G
  have B25 := F25.binds (ps := ["_law_row_here", "_law_one", "_law_two", "_law_flag"]) fun _ _ _ _ _ _ us hl => match us, hl with | [_, _, _, _], _ => rfl
  obtain ⟨f23, v23, F23, g23, p23, e23⟩ := d23.use X G
  have B23 := F23.binds (ps := ["_law_value", "_law_low", "_law_high"]) fun _ _ _ _ _ _ us hl => match us, hl with | [_, _, _], _ => rfl
  obtain ⟨f26, v26, F26, g26, p26, e26⟩ := d26.use X G
  have B26 := F26.binds (ps := ["_law_row_here", "_law_value"]) fun _ _ _ _ _ _ us hl => match us, hl with | [_, _], _ => rfl
  obtain ⟨f27, v27, F27, g27, p27, e27⟩ := d27.use X G
  have B27 := F27.binds (ps := ["_law_row_here", "_law_one", "_law_two", "_law_flag"]) fun _ _ _ _ _ _ us hl => match us, hl with | [_, _, _, _], _ => rfl
  obtain ⟨C_BadTimes, R_BadTimes⟩ := R_BadTimes.ex
  obtain ⟨C_NoHistory, R_NoHistory⟩ := R_NoHistory.ex
  have k_BadTimes : (clsOf [("BadTimes", C_BadTimes), ("NoHistory", C_NoHistory)] fa) "BadTimes" = C_BadTimes := clsOf_hd
  have k_NoHistory : (clsOf [("BadTimes", C_BadTimes), ("NoHistory", C_NoHistory)] fa) "NoHistory" = C_NoHistory := (clsOf_tl (by decide +kernel)).trans (clsOf_hd)
  refine ⟨PySem.W.fnOf "law" "law" (defArgs (topS 30)) (defBody (topS 30)) (defScope (topS 30)) .none kV doc pm an cdv ct, fun s v => .of_eq rfl, fun base _ _ => ?_⟩
  have O20 : FnOk l.prog w K mg base (L2.CX l.prog w) 1 f20 v20 ["_law_crank_here", "_law_many"] spWind := ok_wind F20
  have O19 : FnOk l.prog w K mg base (L2.CX l.prog w) 1 f19 v19 ["_law_script"] (spCrank K) := ok_crank (k := 0) F19 y_len
  refine lawX (fun x : Addr × Addr => crankB (clsOf [("BadTimes", C_BadTimes), ("NoHistory", C_NoHistory)] fa) x.1 x.2) (fun x => x.1) (fun a ns H Q E h1 h2 h3 => ⟨a, ns, rfl, h1, h2, fun r l H2 _ hg => h3 (r, l) H2 hg⟩) (i := 1) (k := 5) (t := fun x => t_law (S_c_row x.1) (svTake x.1) (S_law_times x.1) (S_law_bent x.1) S_law_asked S_law_due) (fun_mk (st := topS 30) ql qc qp) sc_law rfl O19 g19 p19 B19 (by omega) (by decide) rfl rfl (by first | exact .inl rfl | exact .inr rfl) rfl rfl (fun ⟨r, l1⟩ cdv A outer s H E hr hgd tk => ?_) (fun x => l_law x.1)
  have RI_BadTimes : RaiI K ((crankB (clsOf [("BadTimes", C_BadTimes), ("NoHistory", C_NoHistory)] fa) r l1).cls "BadTimes") "BadTimes" "BadTimes.__init__" "value" s_BadTimes := by
    show RaiI K ((clsOf [("BadTimes", C_BadTimes), ("NoHistory", C_NoHistory)] fa) "BadTimes") _ _ _ _
    rw [k_BadTimes]; exact R_BadTimes
  have RB_BadTimes := RI_BadTimes.b
  obtain ⟨M_BadTimes⟩ := RI_BadTimes.mk1 (P := l.prog) (w := w) (base := base) (prm := "value") X G (fun fa fd F => wi_BadTimes F) (fun _ _ _ _ _ _ us hl => match us, hl with | [_, _], _ => rfl)
  have RZ_NoHistory : RaiB K ((crankB (clsOf [("BadTimes", C_BadTimes), ("NoHistory", C_NoHistory)] fa) r l1).cls "NoHistory") "NoHistory" ∧ PySem.W.excIn K ((crankB (clsOf [("BadTimes", C_BadTimes), ("NoHistory", C_NoHistory)] fa) r l1).cls "NoHistory") veB "ValueError.__new__" = true := by
    show RaiB K ((clsOf [("BadTimes", C_BadTimes), ("NoHistory", C_NoHistory)] fa) "NoHistory") _ ∧ PySem.W.excIn K ((clsOf [("BadTimes", C_BadTimes), ("NoHistory", C_NoHistory)] fa) "NoHistory") _ _ = true
    rw [k_NoHistory]; exact R_NoHistory
  have RB_NoHistory := RZ_NoHistory.1
  have M_NoHistory := RB_NoHistory.mk0 RZ_NoHistory.2 X G
  have EB : ∀ n ∈ (["BadTimes", "NoHistory"] : List Str), RaiB K ((crankB (clsOf [("BadTimes", C_BadTimes), ("NoHistory", C_NoHistory)] fa) r l1).cls n) n := fun n hn => by
    simp only [List.mem_cons, List.not_mem_nil, or_false] at hn
    rcases hn with rfl | rfl
    · exact RB_BadTimes
    · exact RB_NoHistory
  have EC : ∀ n ∈ (["BadTimes", "NoHistory"] : List Str), ErrC K ((crankB (clsOf [("BadTimes", C_BadTimes), ("NoHistory", C_NoHistory)] fa) r l1).cls n) := fun n hn => (EB n hn).ec
  have EV := errV EB
  have T_BadWord : ErrT K mg (crankB (clsOf [("BadTimes", C_BadTimes), ("NoHistory", C_NoHistory)] fa) r l1) ["BadTimes", "NoHistory"] "BadWord" := errT X G Q_BadWord (fun n hn => by
    simp only [List.mem_cons, List.not_mem_nil, or_false] at hn
    rcases hn with rfl | rfl
    · exact ⟨S_BadTimes_BadWord, RB_BadTimes⟩
    · exact ⟨S_NoHistory_BadWord, RB_NoHistory⟩)
  have T_NoPerson : ErrT K mg (crankB (clsOf [("BadTimes", C_BadTimes), ("NoHistory", C_NoHistory)] fa) r l1) ["BadTimes", "NoHistory"] "NoPerson" := errT X G Q_NoPerson (fun n hn => by
    simp only [List.mem_cons, List.not_mem_nil, or_false] at hn
    rcases hn with rfl | rfl
    · exact ⟨S_BadTimes_NoPerson, RB_BadTimes⟩
    · exact ⟨S_NoHistory_NoPerson, RB_NoHistory⟩)
  have T_BadTimes : ErrT K mg (crankB (clsOf [("BadTimes", C_BadTimes), ("NoHistory", C_NoHistory)] fa) r l1) ["BadTimes", "NoHistory"] "BadTimes" := errT X G Q_BadTimes (fun n hn => by
    simp only [List.mem_cons, List.not_mem_nil, or_false] at hn
    rcases hn with rfl | rfl
    · exact ⟨S_BadTimes_BadTimes, RB_BadTimes⟩
    · exact ⟨S_NoHistory_BadTimes, RB_NoHistory⟩)
  have T_NoOrder : ErrT K mg (crankB (clsOf [("BadTimes", C_BadTimes), ("NoHistory", C_NoHistory)] fa) r l1) ["BadTimes", "NoHistory"] "NoOrder" := errT X G Q_NoOrder (fun n hn => by
    simp only [List.mem_cons, List.not_mem_nil, or_false] at hn
    rcases hn with rfl | rfl
    · exact ⟨S_BadTimes_NoOrder, RB_BadTimes⟩
    · exact ⟨S_NoHistory_NoOrder, RB_NoHistory⟩)
  have T_Impossible : ErrT K mg (crankB (clsOf [("BadTimes", C_BadTimes), ("NoHistory", C_NoHistory)] fa) r l1) ["BadTimes", "NoHistory"] "Impossible" := errT X G Q_Impossible (fun n hn => by
    simp only [List.mem_cons, List.not_mem_nil, or_false] at hn
    rcases hn with rfl | rfl
    · exact ⟨S_BadTimes_Impossible, RB_BadTimes⟩
    · exact ⟨S_NoHistory_Impossible, RB_NoHistory⟩)
  have T_NoHistory : ErrT K mg (crankB (clsOf [("BadTimes", C_BadTimes), ("NoHistory", C_NoHistory)] fa) r l1) ["BadTimes", "NoHistory"] "NoHistory" := errT X G Q_NoHistory (fun n hn => by
    simp only [List.mem_cons, List.not_mem_nil, or_false] at hn
    rcases hn with rfl | rfl
    · exact ⟨S_BadTimes_NoHistory, RB_BadTimes⟩
    · exact ⟨S_NoHistory_NoHistory, RB_NoHistory⟩)
  have T_TooLarge : ErrT K mg (crankB (clsOf [("BadTimes", C_BadTimes), ("NoHistory", C_NoHistory)] fa) r l1) ["BadTimes", "NoHistory"] "TooLarge" := errT X G Q_TooLarge (fun n hn => by
    simp only [List.mem_cons, List.not_mem_nil, or_false] at hn
    rcases hn with rfl | rfl
    · exact ⟨S_BadTimes_TooLarge, RB_BadTimes⟩
    · exact ⟨S_NoHistory_TooLarge, RB_NoHistory⟩)
  have T_BadCount : ErrT K mg (crankB (clsOf [("BadTimes", C_BadTimes), ("NoHistory", C_NoHistory)] fa) r l1) ["BadTimes", "NoHistory"] "BadCount" := errT X G Q_BadCount (fun n hn => by
    simp only [List.mem_cons, List.not_mem_nil, or_false] at hn
    rcases hn with rfl | rfl
    · exact ⟨S_BadTimes_BadCount, RB_BadTimes⟩
    · exact ⟨S_NoHistory_BadCount, RB_NoHistory⟩)
  have T_LineError : ErrT K mg (crankB (clsOf [("BadTimes", C_BadTimes), ("NoHistory", C_NoHistory)] fa) r l1) ["BadTimes", "NoHistory"] "LineError" := errT X G Q_LineError (fun n hn => by
    simp only [List.mem_cons, List.not_mem_nil, or_false] at hn
    rcases hn with rfl | rfl
    · exact ⟨S_BadTimes_LineError, RB_BadTimes⟩
    · exact ⟨S_NoHistory_LineError, RB_NoHistory⟩)
  have FE_error : ∀ n ∈ ([] : List Str), FldC K ((crankB (clsOf [("BadTimes", C_BadTimes), ("NoHistory", C_NoHistory)] fa) r l1).cls n) "error" := fun n hn => nomatch hn
  have FE_value : ∀ n ∈ (["BadTimes"] : List Str), FldC K ((crankB (clsOf [("BadTimes", C_BadTimes), ("NoHistory", C_NoHistory)] fa) r l1).cls n) "value" := fun n hn => by
    simp only [List.mem_cons, List.not_mem_nil, or_false] at hn
    rcases hn with rfl
    · exact RI_BadTimes.fld
  have C20 : Cal l.prog w K mg base (crankB (clsOf [("BadTimes", C_BadTimes), ("NoHistory", C_NoHistory)] fa) r l1) 1 "_law_wind" ["_law_crank_here", "_law_many"] (svTake r) := ⟨f20, v20, (wind_v (cls := (clsOf [("BadTimes", C_BadTimes), ("NoHistory", C_NoHistory)] fa)) (r := r) O20), g20, p20, B20⟩
  have C21 : Cal l.prog w K mg base (crankB (clsOf [("BadTimes", C_BadTimes), ("NoHistory", C_NoHistory)] fa) r l1) 2 "_law_row" ["_law_crank_here", "_law_size"] (S_c_row r) := ⟨f21, v21, w_c_row F21 C20 y_tuple y_range (fun ds Q E h => by first | (simp only [S_c_row] at h; split at h <;> first | rfl | exact h.elim) | (obtain ⟨rfl, _⟩ := h; rfl) | (obtain ⟨_, rfl, _⟩ := h; rfl) | (obtain ⟨_, _, rfl, _⟩ := h; rfl) | (obtain ⟨_, _, _, rfl, _⟩ := h; rfl) | (obtain ⟨_, _, _, _, rfl, _⟩ := h; rfl)) (l_c_row r), g21, p21, B21⟩
  have C28 : Cal l.prog w K mg base (crankB (clsOf [("BadTimes", C_BadTimes), ("NoHistory", C_NoHistory)] fa) r l1) 2 "_law_times" ["_law_crank_here", "_law_row_here", "_law_wide", "_law_ahead"] (S_law_times r) := ⟨f28, v28, w_law_times F28 C20 y_range y_len y_min y_tuple (fun ds Q E h => by first | (simp only [S_law_times] at h; split at h <;> first | rfl | exact h.elim) | (obtain ⟨rfl, _⟩ := h; rfl) | (obtain ⟨_, rfl, _⟩ := h; rfl) | (obtain ⟨_, _, rfl, _⟩ := h; rfl) | (obtain ⟨_, _, _, rfl, _⟩ := h; rfl) | (obtain ⟨_, _, _, _, rfl, _⟩ := h; rfl)) (l_law_times r), g28, p28, B28⟩
  have C22 : Cal l.prog w K mg base (crankB (clsOf [("BadTimes", C_BadTimes), ("NoHistory", C_NoHistory)] fa) r l1) 2 "_law_odd" ["_law_crank_here"] (S_c_odd r) := ⟨f22, v22, w_c_odd F22 C20 (fun ds Q E h => by first | (simp only [S_c_odd] at h; split at h <;> first | rfl | exact h.elim) | (obtain ⟨rfl, _⟩ := h; rfl) | (obtain ⟨_, rfl, _⟩ := h; rfl) | (obtain ⟨_, _, rfl, _⟩ := h; rfl) | (obtain ⟨_, _, _, rfl, _⟩ := h; rfl) | (obtain ⟨_, _, _, _, rfl, _⟩ := h; rfl)) (l_c_odd r), g22, p22, B22⟩
  have C29 : Cal l.prog w K mg base (crankB (clsOf [("BadTimes", C_BadTimes), ("NoHistory", C_NoHistory)] fa) r l1) 3 "_law_bent" ["_law_crank_here", "_law_times_here"] (S_law_bent r) := ⟨f29, v29, w_law_bent F29 C22 C20 y_len y_list (fun ds Q E h => by first | (simp only [S_law_bent] at h; split at h <;> first | rfl | exact h.elim) | (obtain ⟨rfl, _⟩ := h; rfl) | (obtain ⟨_, rfl, _⟩ := h; rfl) | (obtain ⟨_, _, rfl, _⟩ := h; rfl) | (obtain ⟨_, _, _, rfl, _⟩ := h; rfl) | (obtain ⟨_, _, _, _, rfl, _⟩ := h; rfl)) (l_law_bent r), g29, p29, B29⟩
  have C14 : Cal l.prog w K mg base (crankB (clsOf [("BadTimes", C_BadTimes), ("NoHistory", C_NoHistory)] fa) r l1) 1 "is_integer" ["value", "low", "high"] S_is_integer := ⟨f14, v14, w_is_integer F14 y_isinstance y_bool y_int (fun ds Q E h => by first | (simp only [S_is_integer] at h; split at h <;> first | rfl | exact h.elim) | (obtain ⟨rfl, _⟩ := h; rfl) | (obtain ⟨_, rfl, _⟩ := h; rfl) | (obtain ⟨_, _, rfl, _⟩ := h; rfl) | (obtain ⟨_, _, _, rfl, _⟩ := h; rfl) | (obtain ⟨_, _, _, _, rfl, _⟩ := h; rfl)) l_is_integer, g14, p14, B14⟩
  have C16 : Cal l.prog w K mg base (crankB (clsOf [("BadTimes", C_BadTimes), ("NoHistory", C_NoHistory)] fa) r l1) 3 "check_times" ["row", "value"] S_check_times := ⟨f16, v16, w_check_times F16 C14 ⟨_, c0⟩ y_isinstance y_tuple y_len y_all y_list y_sorted M_BadTimes (fun ds Q E h => by first | (simp only [S_check_times] at h; split at h <;> first | rfl | exact h.elim) | (obtain ⟨rfl, _⟩ := h; rfl) | (obtain ⟨_, rfl, _⟩ := h; rfl) | (obtain ⟨_, _, rfl, _⟩ := h; rfl) | (obtain ⟨_, _, _, rfl, _⟩ := h; rfl) | (obtain ⟨_, _, _, _, rfl, _⟩ := h; rfl)) l_check_times, g16, p16, B16⟩
  have C17 : CalW l.prog w K mg base (crankB (clsOf [("BadTimes", C_BadTimes), ("NoHistory", C_NoHistory)] fa) r l1) 4 "timed_word" ["row", "arrivals", "services"] "service_first" (.bool false) S_timed_word := ⟨f17, v17, w_timed_word F17 C16 ⟨_, c1⟩ ⟨_, c2⟩ y_sorted M_NoHistory (fun ds Q E h => by first | (simp only [S_timed_word] at h; split at h <;> first | rfl | exact h.elim) | (obtain ⟨rfl, _⟩ := h; rfl) | (obtain ⟨_, rfl, _⟩ := h; rfl) | (obtain ⟨_, _, rfl, _⟩ := h; rfl) | (obtain ⟨_, _, _, rfl, _⟩ := h; rfl) | (obtain ⟨_, _, _, _, rfl, _⟩ := h; rfl)) l_timed_word, g17, p17, ⟨_, ds17, hv17, bb17, fun _ _ => by constructor⟩, bk17⟩
  have C24 : CalE l.prog w K mg base (crankB (clsOf [("BadTimes", C_BadTimes), ("NoHistory", C_NoHistory)] fa) r l1) 1 "_law_error" ["_law_error_here"] S_law_error := ⟨f24, v24, w_law_error F24 y_isinstance y_ValueError T_BadWord EC T_NoPerson T_BadTimes T_NoOrder T_Impossible T_NoHistory EV T_TooLarge T_BadCount FE_error FE_value l_law_error, g24, p24, B24⟩
  have C25 : Cal l.prog w K mg base (crankB (clsOf [("BadTimes", C_BadTimes), ("NoHistory", C_NoHistory)] fa) r l1) 5 "_law_asked" ["_law_row_here", "_law_one", "_law_two", "_law_flag"] S_law_asked := ⟨f25, v25, w_law_asked F25 C17 C24 T_LineError (fun ds Q E h => by first | (simp only [S_law_asked] at h; split at h <;> first | rfl | exact h.elim) | (obtain ⟨rfl, _⟩ := h; rfl) | (obtain ⟨_, rfl, _⟩ := h; rfl) | (obtain ⟨_, _, rfl, _⟩ := h; rfl) | (obtain ⟨_, _, _, rfl, _⟩ := h; rfl) | (obtain ⟨_, _, _, _, rfl, _⟩ := h; rfl)) l_law_asked, g25, p25, B25⟩
  have C23 : Cal l.prog w K mg base (crankB (clsOf [("BadTimes", C_BadTimes), ("NoHistory", C_NoHistory)] fa) r l1) 1 "_law_is_int" ["_law_value", "_law_low", "_law_high"] S_c_is_int := ⟨f23, v23, w_c_is_int F23 y_isinstance y_bool y_int (fun ds Q E h => by first | (simp only [S_c_is_int] at h; split at h <;> first | rfl | exact h.elim) | (obtain ⟨rfl, _⟩ := h; rfl) | (obtain ⟨_, rfl, _⟩ := h; rfl) | (obtain ⟨_, _, rfl, _⟩ := h; rfl) | (obtain ⟨_, _, _, rfl, _⟩ := h; rfl) | (obtain ⟨_, _, _, _, rfl, _⟩ := h; rfl)) l_c_is_int, g23, p23, B23⟩
  have C26 : Cal l.prog w K mg base (crankB (clsOf [("BadTimes", C_BadTimes), ("NoHistory", C_NoHistory)] fa) r l1) 2 "_law_is_times" ["_law_row_here", "_law_value"] S_c_is_times := ⟨f26, v26, w_c_is_times F26 C23 y_isinstance y_tuple y_len y_range (fun ds Q E h => by first | (simp only [S_c_is_times] at h; split at h <;> first | rfl | exact h.elim) | (obtain ⟨rfl, _⟩ := h; rfl) | (obtain ⟨_, rfl, _⟩ := h; rfl) | (obtain ⟨_, _, rfl, _⟩ := h; rfl) | (obtain ⟨_, _, _, rfl, _⟩ := h; rfl) | (obtain ⟨_, _, _, _, rfl, _⟩ := h; rfl)) l_c_is_times, g26, p26, B26⟩
  have C27 : Cal l.prog w K mg base (crankB (clsOf [("BadTimes", C_BadTimes), ("NoHistory", C_NoHistory)] fa) r l1) 3 "_law_due" ["_law_row_here", "_law_one", "_law_two", "_law_flag"] S_law_due := ⟨f27, v27, w_law_due F27 C26 y_len (fun ds Q E h => by first | (simp only [S_law_due] at h; split at h <;> first | rfl | exact h.elim) | (obtain ⟨rfl, _⟩ := h; rfl) | (obtain ⟨_, rfl, _⟩ := h; rfl) | (obtain ⟨_, _, rfl, _⟩ := h; rfl) | (obtain ⟨_, _, _, rfl, _⟩ := h; rfl) | (obtain ⟨_, _, _, _, rfl, _⟩ := h; rfl)) l_law_due, g27, p27, B27⟩
  exact w_law C21 C20 C28 C29 C25 C27 y_range y_tuple y_len y_max y_repr cdv A outer s H E hr hgd tk
end LawP
set_option linter.all false
set_option maxRecDepth 100000
set_option maxHeartbeats 0
open PySem PySem.W PyProof.Rows in
theorem PySem.Challenge.cw_matesline_k54_words_of_times_holds : PySem.Challenge.rw_matesline_k54_words_of_times.Holds := by
  w_on; o_law; k_head; (case hw => w_witness2)
  k_fill
  refine VL.walkG (l := PySem.Challenge.rw_matesline_k54_words_of_times) (n := 63) (k := 6) (x := "_law_script") (sp := fun w => VL.spLaw _) rfl (by decide) rfl ⟨rfl, by decide, by decide⟩ (fun w h Y => PySem.W.kIn_of Y) ?F (fun _ _ a ns hl _ hS => ⟨a, ns, rfl, hS, hl, fun _ => rfl⟩)
  case F =>
    intro w mg fa h KX G hmg
    refine' LawP.all_mk KX G hmg ?d19 ?d20 ?d21 ?d28 ?d22 ?d29 ?d14 ?d16 ?d17 ?d24 ?d25 ?d23 ?d26 ?d27 ?d30 ?m0 ?m1 ?m2 ?z0 ?z1 ?z2 ?z3 ?z4 ?z5 ?z6 ?z7 ?z8 ?z9 ?z10 ?z11 ?z12 ?z13 ?r0 ?r1 ?q0 ?q1 ?q2 ?q3 ?q4 ?q5 ?q6 ?q7 ?q8 ?s0 ?s1 ?s2 ?s3 ?s4 ?s5 ?s6 ?s7 ?s8 ?s9 ?s10 ?s11 ?s12 ?s13 ?s14 ?s15 ?s16 ?s17
    (case d19 => refine' VL.defK ?a ?l ?c ?k; (case a => k_is); (case l => k_is); (case c => k_is); (case k => k_is))
    (case d20 => refine' VL.defK ?a ?l ?c ?k; (case a => k_is); (case l => k_is); (case c => k_is); (case k => k_is))
    (case d21 => refine' VL.defK ?a ?l ?c ?k; (case a => k_is); (case l => k_is); (case c => k_is); (case k => k_is))
    (case d28 => refine' VL.defK ?a ?l ?c ?k; (case a => k_is); (case l => k_is); (case c => k_is); (case k => k_is))
    (case d22 => refine' VL.defK ?a ?l ?c ?k; (case a => k_is); (case l => k_is); (case c => k_is); (case k => k_is))
    (case d29 => refine' VL.defK ?a ?l ?c ?k; (case a => k_is); (case l => k_is); (case c => k_is); (case k => k_is))
    (case d14 => refine' VL.defK ?a ?l ?c ?k; (case a => k_is); (case l => k_is); (case c => k_is); (case k => k_is))
    (case d16 => refine' VL.defK ?a ?l ?c ?k; (case a => k_is); (case l => k_is); (case c => k_is); (case k => k_is))
    (case d17 => refine' VL.defW ?a ?l ?c ?k ?e ?r; (case a => k_is); (case l => k_is); (case c => k_is); (case k => k_is); (case e => k_is); (case r => first | rfl | exact ⟨_, rfl⟩))
    (case d24 => refine' VL.defK ?a ?l ?c ?k; (case a => k_is); (case l => k_is); (case c => k_is); (case k => k_is))
    (case d25 => refine' VL.defK ?a ?l ?c ?k; (case a => k_is); (case l => k_is); (case c => k_is); (case k => k_is))
    (case d23 => refine' VL.defK ?a ?l ?c ?k; (case a => k_is); (case l => k_is); (case c => k_is); (case k => k_is))
    (case d26 => refine' VL.defK ?a ?l ?c ?k; (case a => k_is); (case l => k_is); (case c => k_is); (case k => k_is))
    (case d27 => refine' VL.defK ?a ?l ?c ?k; (case a => k_is); (case l => k_is); (case c => k_is); (case k => k_is))
    (case d30 => refine' VL.defK ?a ?l ?c ?k; (case a => k_is); (case l => k_is); (case c => k_is); (case k => k_is))
    (case m0 => k_is)
    (case m1 => k_is)
    (case m2 => k_is)
    (case z0 => k_is)
    (case z1 => k_is)
    (case z2 => k_is)
    (case z3 => k_is)
    (case z4 => k_is)
    (case z5 => k_is)
    (case z6 => k_is)
    (case z7 => k_is)
    (case z8 => k_is)
    (case z9 => k_is)
    (case z10 => k_is)
    (case z11 => k_is)
    (case z12 => k_is)
    (case z13 => k_is)
    (case r0 => refine' VL.rai1 (VL.raiB ?a1 ?a2 ?a3 ?a4 ?a5 ?b1 ?b2 ?b3 ?b4 ?b5 ?b6 ?b7 ?b8) ?c1 ?c2 ?c3 ?c4 ?d1 ?d2 ?d3 ?d4 ?d5; (case a1 => k_is); (case a2 => k_is); (case a3 => k_is); (case a4 => k_is); (case a5 => k_is); (case b1 => k_is); (case b2 => k_is); (case b3 => k_is); (case b4 => k_is); (case b5 => k_is); (case b6 => k_is); (case b7 => k_is); (case b8 => k_is); (case c1 => k_is); (case c2 => decide +kernel); (case c3 => k_is); (case c4 => k_is); (case d1 => k_is); (case d2 => k_is); (case d3 => k_is); (case d4 => k_is); (case d5 => k_is))
    (case r1 => refine' VL.rai0 (VL.raiB ?a1 ?a2 ?a3 ?a4 ?a5 ?b1 ?b2 ?b3 ?b4 ?b5 ?b6 ?b7 ?b8) ?e1; (case a1 => k_is); (case a2 => k_is); (case a3 => k_is); (case a4 => k_is); (case a5 => k_is); (case b1 => k_is); (case b2 => k_is); (case b3 => k_is); (case b4 => k_is); (case b5 => k_is); (case b6 => k_is); (case b7 => k_is); (case b8 => k_is); (case e1 => first | rfl | decide +kernel | k_exc))
    (case q0 => refine' VL.tstK ?a1 ?a2 ?a3 ?a4; (case a1 => k_is); (case a2 => k_is); (case a3 => k_is); (case a4 => k_is))
    (case q1 => refine' VL.tstK ?a1 ?a2 ?a3 ?a4; (case a1 => k_is); (case a2 => k_is); (case a3 => k_is); (case a4 => k_is))
    (case q2 => refine' VL.tstK ?a1 ?a2 ?a3 ?a4; (case a1 => k_is); (case a2 => k_is); (case a3 => k_is); (case a4 => k_is))
    (case q3 => refine' VL.tstK ?a1 ?a2 ?a3 ?a4; (case a1 => k_is); (case a2 => k_is); (case a3 => k_is); (case a4 => k_is))
    (case q4 => refine' VL.tstK ?a1 ?a2 ?a3 ?a4; (case a1 => k_is); (case a2 => k_is); (case a3 => k_is); (case a4 => k_is))
    (case q5 => refine' VL.tstK ?a1 ?a2 ?a3 ?a4; (case a1 => k_is); (case a2 => k_is); (case a3 => k_is); (case a4 => k_is))
    (case q6 => refine' VL.tstK ?a1 ?a2 ?a3 ?a4; (case a1 => k_is); (case a2 => k_is); (case a3 => k_is); (case a4 => k_is))
    (case q7 => refine' VL.tstK ?a1 ?a2 ?a3 ?a4; (case a1 => k_is); (case a2 => k_is); (case a3 => k_is); (case a4 => k_is))
    (case q8 => refine' VL.tstK ?a1 ?a2 ?a3 ?a4; (case a1 => k_is); (case a2 => k_is); (case a3 => k_is); (case a4 => k_is))
    (case s0 => refine' VL.subK ?a1 ?a2 ?a3 ?a4; (case a1 => k_is); (case a2 => k_is); (case a3 => k_is); (case a4 => decide +kernel))
    (case s1 => refine' VL.subK ?a1 ?a2 ?a3 ?a4; (case a1 => k_is); (case a2 => k_is); (case a3 => k_is); (case a4 => decide +kernel))
    (case s2 => refine' VL.subK ?a1 ?a2 ?a3 ?a4; (case a1 => k_is); (case a2 => k_is); (case a3 => k_is); (case a4 => decide +kernel))
    (case s3 => refine' VL.subK ?a1 ?a2 ?a3 ?a4; (case a1 => k_is); (case a2 => k_is); (case a3 => k_is); (case a4 => decide +kernel))
    (case s4 => refine' VL.subK ?a1 ?a2 ?a3 ?a4; (case a1 => k_is); (case a2 => k_is); (case a3 => k_is); (case a4 => decide +kernel))
    (case s5 => refine' VL.subK ?a1 ?a2 ?a3 ?a4; (case a1 => k_is); (case a2 => k_is); (case a3 => k_is); (case a4 => decide +kernel))
    (case s6 => refine' VL.subK ?a1 ?a2 ?a3 ?a4; (case a1 => k_is); (case a2 => k_is); (case a3 => k_is); (case a4 => decide +kernel))
    (case s7 => refine' VL.subK ?a1 ?a2 ?a3 ?a4; (case a1 => k_is); (case a2 => k_is); (case a3 => k_is); (case a4 => decide +kernel))
    (case s8 => refine' VL.subK ?a1 ?a2 ?a3 ?a4; (case a1 => k_is); (case a2 => k_is); (case a3 => k_is); (case a4 => decide +kernel))
    (case s9 => refine' VL.subK ?a1 ?a2 ?a3 ?a4; (case a1 => k_is); (case a2 => k_is); (case a3 => k_is); (case a4 => decide +kernel))
    (case s10 => refine' VL.subK ?a1 ?a2 ?a3 ?a4; (case a1 => k_is); (case a2 => k_is); (case a3 => k_is); (case a4 => decide +kernel))
    (case s11 => refine' VL.subK ?a1 ?a2 ?a3 ?a4; (case a1 => k_is); (case a2 => k_is); (case a3 => k_is); (case a4 => decide +kernel))
    (case s12 => refine' VL.subK ?a1 ?a2 ?a3 ?a4; (case a1 => k_is); (case a2 => k_is); (case a3 => k_is); (case a4 => decide +kernel))
    (case s13 => refine' VL.subK ?a1 ?a2 ?a3 ?a4; (case a1 => k_is); (case a2 => k_is); (case a3 => k_is); (case a4 => decide +kernel))
    (case s14 => refine' VL.subK ?a1 ?a2 ?a3 ?a4; (case a1 => k_is); (case a2 => k_is); (case a3 => k_is); (case a4 => decide +kernel))
    (case s15 => refine' VL.subK ?a1 ?a2 ?a3 ?a4; (case a1 => k_is); (case a2 => k_is); (case a3 => k_is); (case a4 => decide +kernel))
    (case s16 => refine' VL.subK ?a1 ?a2 ?a3 ?a4; (case a1 => k_is); (case a2 => k_is); (case a3 => k_is); (case a4 => decide +kernel))
    (case s17 => refine' VL.subK ?a1 ?a2 ?a3 ?a4; (case a1 => k_is); (case a2 => k_is); (case a3 => k_is); (case a4 => decide +kernel))
