import PyProof.Rows.All
import PySem.Challenge.RW_matesline_k72_other_texts_refused
import HandS.ForMost
import HandS.ForExc
import HandS.TupAny
import HandS.TupMul
import HandS.More
import HandS.Style
import HandS.IsInst
import HandS.Deep
import KE.DataEq
import HandS.RaiseMore
import KE.KIndexOf
import PyProof.SeqIndex
import PyProof.EqAt
import HandS.Iter
import HandS.Zip
import HandS.Rev
import KE.GoesMore
import KE.GoesEnum
import HandS.Comp
import HandS.WordsExc
import HandS.ExcOwn
import PyProof.ReprReads
import PyProof.ReprRoads
import HandS.Ends
import HandS.Dict
import KE.KRevSl
import HandS.AnyAll
import HandS.Text
import PyProof.ReprLen
import PyProof.Rows.ReprOcc
import HandS.StrMore
import HandS.Strs
import HandS.SetFor
import HandS.Steps
import HandS.ExcInit
import HandS.ExcField
import HandS.ExcIs
import HandS.Small
import KE.KIsAll
import HandS.Star
import HandS.SortInts
import HandS.TupSets
import HandS.Conv
import HandS.SortRule
import PyProof.ListStr
import HandS.Flow
set_option Elab.async false
set_option linter.all false
set_option maxRecDepth 100000
set_option maxHeartbeats 4000000
namespace VL
open PySem PySem.Spec PyProof.Rows L2

/-! ## tuples whose very object is known (so that it has no dict of its own) -/
abbrev tob (its : List Value) : Obj := { cls := .type "tuple", data := .seq its.toArray }
/-- a held tuple -/
abbrev HO.th (o : Obj) (xs : List V) : HO := .frz o (.tup xs)
theorem th_ok {P : Program} {w : World} {H : Hp} {h : Heap} {a : Addr} {xs : List V} {its : List Value} (hz : xs.length ≤ sizeLine) (r : Vals xs its) (e : h.get? a = some (tob its)) : ObjOk P w H h a (HO.th (tob its) xs) :=
  ⟨e, hz, its, r, ⟨_, e, rfl, _, rfl⟩⟩
theorem SqT.th {K : PySem.W.Frag} {H : Hp} {a : Addr} {o : Obj} {xs : List V} (h : H a = some (HO.th o xs)) : SqT K H a xs := .inl (.inr ⟨o, h⟩)
/-- what is wanted of a new tuple -/
abbrev NewT (H : Hp) (xs : List V) (Q : VK) : Prop := ∀ (p : Addr) (o : Obj), H p = none → o.dict = none → Q (.ref p) (upd H p (HO.th o xs))
section
variable {X : Cx} {e : Expr} {es : List Expr} {te : TE} {t : TA} {pos : Pos} {pins : List (Addr × Obj)} {σ : L2.St} {H : Hp} {s : Shared} {Q : VK}
theorem new_th {xs : List V} {its : List Value} {tk : Nat} (I : Inv X pins σ H s) (hz : xs.length ≤ sizeLine) (r : Vals xs its) (q : NewT H xs Q) : EP X pins σ Q (.ref s.heap.objs.size) { s with heap := s.heap.push (tob its), toks := tk } :=
  ⟨.ref s.heap.objs.size, upd H s.heap.objs.size (HO.th (tob its) xs), I.laid (t' := tk) (fun _ _ e => Heap.get?_push_of_some _ e) (Nat.le_refl _) (th_ok hz r (Heap.get?_push_size _ rfl)), rfl, q _ _ (I.hok.fresh (Nat.le_refl _)) rfl⟩
def tTupF (t : TA) : TE := fun σ H Q => t σ H fun xs H1 => xs.length ≤ sizeLine ∧ NewT H1 xs Q
theorem pe_tupF {x1} (h : PA X es t) : PE X (.Tuple es x1 pos) (tTupF t) := by
  refine ⟨fun pins s σ H Q I hq => wpAny_Tuple_spliced (thn (h.run pos pins s σ H _ I hq) ?_)⟩
  rintro us s1 ⟨xs, H1, I1, r, z, q⟩
  exact ⟨Nat.le_trans (Nat.le_of_eq r.length.symm) z, new_th (tk := s1.toks) I1 z r q⟩
def rCatF (K : PySem.W.Frag) : R2 := fun x y H Q => ∃ a c xs ys, x = .ref a ∧ y = .ref c ∧ SqT K H a xs ∧ SqT K H c ys ∧ xs.length + ys.length ≤ sizeLine ∧
  (xs = [] → Q (.ref c) H) ∧ (xs ≠ [] → ys = [] → Q (.ref a) H) ∧ (xs ≠ [] → ys ≠ [] → NewT H (xs ++ ys) Q)
theorem op_catF : OpR X (binaryOp .Add) (rCatF X.K) := by
  intro pins s σ H x y v u Q I rx ry ⟨a, c, xs, ys, ex, ey, ha, hc, hz, q0, q1, q2⟩
  subst ex ey
  obtain rfl : v = .ref a := rx
  obtain rfl : u = .ref c := ry
  obtain ⟨i1, r1, p1, _⟩ := I.tuple ha
  obtain ⟨i2, r2, p2, _⟩ := I.tuple hc
  cases xs with
  | nil =>
    cases r1
    exact cat_tup0 p1 p2 ⟨.ref c, H, I, rfl, q0 rfl⟩
  | cons x0 xr =>
    have hx : x0 :: xr ≠ [] := by simp
    refine HT.cat_tup p1 p2 (fun z => hx (r1.nil_iff.mp z)) (fun z => ⟨.ref a, H, I, rfl, q1 hx (r2.nil_iff.mp z)⟩) (fun z => ?_) (by have h1 := r1.length; have h2 := r2.length; omega)
    exact new_th (tk := s.toks) I (by rw [List.length_append]; exact hz) (r1.append r2) (q2 hx fun w => z (r2.nil_iff.mpr w))
def rSlF (K : PySem.W.Frag) : V → Option Int → Option Int → Hp → VK → Prop := fun x lo hi H Q => ∃ a xs, x = .ref a ∧ SqT K H a xs ∧
  (HT.sIx xs.length 0 lo = 0 ∧ HT.sIx xs.length xs.length hi = xs.length → Q (.ref a) H) ∧ (¬ (HT.sIx xs.length 0 lo = 0 ∧ HT.sIx xs.length xs.length hi = xs.length) → NewT H (cutV xs lo hi) Q)
theorem sl_tupF : SlR X (rSlF X.K) := by
  intro pins s σ H x v vl vu lo hi sl Q I rx hs pl pu ⟨a, xs, ex, hx, q1, q2⟩
  subst ex
  obtain rfl : v = .ref a := rx
  obtain ⟨its, r, ht, hz⟩ := I.tuple hx
  have hn : its.toArray.size = xs.length := by rw [List.size_toArray, r.length]
  refine ⟨"tuple", _, PyProof.Rows.slot_tuple_getitem.lookup, ht.typeIs, ?_⟩
  by_cases hw : HT.sIx xs.length 0 lo = 0 ∧ HT.sIx xs.length xs.length hi = xs.length
  · exact getItem_tuple_whole ht hs pl pu (by rw [hn]; exact hw) ⟨.ref a, H, I, rfl, q1 hw⟩
  · refine HT.getItem_tuple_cut ht hs pl pu (by rw [hn]; exact hw) ?_ (by rw [hn]; exact hz)
    rw [hn]
    exact new_th (tk := s.toks) I (Nat.le_trans (cutV_length xs lo hi) hz) ((r.drop _).take _) (q2 hw)
def rTupOf (K : PySem.W.Frag) : List V → Hp → VK → Prop := fun xs H Q => ∃ p ys, xs = [.ref p] ∧ ((SqL K H p ys ∧ NewT H ys Q) ∨ (SqT K H p ys ∧ Q (.ref p) H))
theorem call_tupF : CallR X (.type "tuple") (rTupOf X.K) := by
  intro pins s σ H xs us Q I r ⟨p, ys, ex, h⟩
  subst ex
  obtain ⟨u, rfl, ru⟩ := vals1 r
  obtain rfl : u = .ref p := ru
  rcases h with ⟨hq, q⟩ | ⟨hq, q⟩
  · obtain ⟨its, r', pl, hz⟩ := I.list hq
    refine call_tuple_list pl.isList (fun h' kp => ?_) (by rw [List.size_toArray, ← r'.length]; exact hz)
    exact new_th (s := { s with heap := h' }) (tk := s.toks) (I.kept (t' := s.toks) kp) hz r' q
  · obtain ⟨its, r', pl, hz⟩ := I.tuple hq
    exact call_tuple_same pl ⟨.ref p, H, I, rfl, q⟩
def rRepF (K : PySem.W.Frag) : R2 := fun x y H Q => ∃ l k xs, x = .ref l ∧ y = .int k ∧ SqT K H l xs ∧ xs ≠ [] ∧ 2 ≤ k ∧ k ≤ 1000 ∧ xs.length ≤ 1000 ∧ NewT H (List.replicate k.toNat xs).flatten Q
theorem op_repF : OpR X (binaryOp .Mult) (rRepF X.K) := by
  intro pins s σ H x y v u Q I rx ry ⟨l, k, xs, ex, ey, hT, hne, h2, h3, hz, q⟩
  subst ex ey
  obtain rfl : v = .ref l := rx
  obtain ⟨t, rfl⟩ := ry
  obtain ⟨its, r, ⟨o, ho, hc, n, hd⟩, hs⟩ := I.tuple hT
  obtain ⟨oc, dd, dt, slt⟩ := o
  obtain rfl : oc = .type "tuple" := hc
  obtain rfl : dt = .seq its.toArray n := hd
  have hle : its.length = xs.length := r.length.symm
  have hi : its.toArray.isEmpty = false := by
    cases xs with
    | nil => exact absurd rfl hne
    | cons _ _ => cases r; rfl
  have hsz : its.toArray.size = xs.length := by rw [List.size_toArray, hle]
  have hm : ((its.toArray.size : Nat) : Int) * k ≤ 1000000 := by
    rw [hsz]
    exact Int.le_trans (Int.mul_le_mul_of_nonneg_right (show ((xs.length : Nat) : Int) ≤ 1000 by omega) (by omega)) (by omega)
  have fl : (List.replicate k.toNat xs).flatten.length ≤ sizeLine := by
    rw [PyProof.Rows.lm_len_rep_flat, sizeLine_eq]
    exact Nat.le_trans (Nat.mul_le_mul (show k.toNat ≤ 1000 by omega) hz) (by decide)
  have fl2 : (List.replicate k.toNat its).flatten.length ≤ sizeLine := by
    rw [PyProof.Rows.lm_len_rep_flat, hle, ← PyProof.Rows.lm_len_rep_flat]
    exact fl
  have c1 : (its.toArray.isEmpty || k == 1) = false := by simp only [hi, Bool.false_or]; exact beq_eq_false_iff_ne.mpr (by omega)
  have c2 : (decide (k ≤ 0) || its.toArray.isEmpty) = false := by simp only [hi, Bool.or_false]; exact decide_eq_false (by omega)
  have c4 : Builtin.Tuple.tupleTooMany (((its.toArray.size : Nat) : Int) * k) = false := by
    unfold Builtin.Tuple.tupleTooMany
    simp only [sizeLine_eq]
    exact decide_eq_false (by omega)
  have road := tuple_mulW l its.toArray n dd slt k t (by simp; omega) c1 c2 (by omega) c4 (by rw [size_rep, List.size_toArray]; exact fl2)
  refine wpAny_binaryOp_repeat_ref (U := "int") (T := "tuple") (by decide) ⟨_, ho, rfl⟩ (typeIs_int · k t) noFill_tuple_mul F.fills_int_mul F.slot_int_rmul repeat_tuple F.slot_int_index.lookup ?_
  refine call_meets F.slot_int_rmul (typeIs_int s k t) F.entry_int_rmul (F.args_int_rmul_2 _ _) (int_rmul_tuple k t l its.toArray n dd slt) ⟨ho, rfl, ⟨_, ho, rfl⟩, ?_⟩
  refine call_meets F.slot_tuple_mul ⟨_, ho, rfl⟩ F.entry_tuple_mul (F.args_tuple_mul_2 _ _) road ⟨ho, ?_⟩
  rw [size_rep]
  exact new_th (tk := s.toks) I fl (r.rep k.toNat) q
end
end VL
set_option Elab.async false
set_option linter.all false
set_option maxRecDepth 100000
set_option maxHeartbeats 4000000
namespace VL
open PySem PySem.Spec PyProof.Rows L2

/-- what a value is worth: plain data, an own object of plain data that stands still, a value as it is -/
inductive D where
  | py (p : PyData)
  | obj (n : Str) (fs : List (Str × PyData))
  | raw (v : V)
  | err (a : Addr) (d : Option Addr) (n : Str) (fs : List (Str × PyData))

@[simp] def kD : Key → PyData
  | .inl i => .int i
  | .inr x => .str x

mutual
/-- v is worth d in H; nothing that it reaches lies in Z -/
inductive Rq (Z : Addr → Prop) (H : Hp) : V → PyData → Prop
  | non : Rq Z H .non .none
  | bl (k : Bool) : Rq Z H (.bl k) (.bool k)
  | int (i : Int) : Rq Z H (.int i) (.int i)
  | str (x : Str) : Rq Z H (.str x) (.str x)
  | lst {a : Addr} {xs : List V} {ds : List PyData} : H a = some (.lst xs) → ¬ Z a → Rqs Z H xs ds → Rq Z H (.ref a) (.list ds)
  | tup {a : Addr} {o : Obj} {xs : List V} {ds : List PyData} : H a = some (HO.th o xs) → o.dict = none → ¬ Z a → Rqs Z H xs ds → Rq Z H (.ref a) (.tuple ds)
  | dct {a : Addr} {kvs : List (Key × V)} {ds : List (PyData × PyData)} : H a = some (.dK kvs) → ¬ Z a → Rqk Z H kvs ds → Rq Z H (.ref a) (.dict ds)
inductive Rqs (Z : Addr → Prop) (H : Hp) : List V → List PyData → Prop
  | nil : Rqs Z H [] []
  | cons {v : V} {d : PyData} {vs : List V} {ds : List PyData} : Rq Z H v d → Rqs Z H vs ds → Rqs Z H (v :: vs) (d :: ds)
inductive Rqk (Z : Addr → Prop) (H : Hp) : List (Key × V) → List (PyData × PyData) → Prop
  | nil : Rqk Z H [] []
  | cons {k : Key} {v : V} {d : PyData} {vs : List (Key × V)} {ds : List (PyData × PyData)} : Rq Z H v d → Rqk Z H vs ds → Rqk Z H ((k, v) :: vs) ((kD k, d) :: ds)
end

section
variable {Z Z' : Addr → Prop} {H H' : Hp}
mutual
theorem Rq.mono (hz : ∀ a, Z' a → Z a ∨ H a = none) (hs : ∀ a o, H a = some o → ¬ Z a → H' a = some o) : ∀ {v : V} {d : PyData}, Rq Z H v d → Rq Z' H' v d
  | _, _, .non => .non
  | _, _, .bl k => .bl k
  | _, _, .int i => .int i
  | _, _, .str x => .str x
  | _, _, .lst e n r => .lst (hs _ _ e n) (fun z => (hz _ z).elim n fun q => by rw [e] at q; cases q) (Rqs.mono hz hs r)
  | _, _, .tup e d n r => .tup (hs _ _ e n) d (fun z => (hz _ z).elim n fun q => by rw [e] at q; cases q) (Rqs.mono hz hs r)
  | _, _, .dct e n r => .dct (hs _ _ e n) (fun z => (hz _ z).elim n fun q => by rw [e] at q; cases q) (Rqk.mono hz hs r)
theorem Rqs.mono (hz : ∀ a, Z' a → Z a ∨ H a = none) (hs : ∀ a o, H a = some o → ¬ Z a → H' a = some o) : ∀ {v : List V} {d : List PyData}, Rqs Z H v d → Rqs Z' H' v d
  | _, _, .nil => .nil
  | _, _, .cons r t => .cons (Rq.mono hz hs r) (Rqs.mono hz hs t)
theorem Rqk.mono (hz : ∀ a, Z' a → Z a ∨ H a = none) (hs : ∀ a o, H a = some o → ¬ Z a → H' a = some o) : ∀ {v : List (Key × V)} {d : List (PyData × PyData)}, Rqk Z H v d → Rqk Z' H' v d
  | _, _, .nil => .nil
  | _, _, .cons r t => .cons (Rq.mono hz hs r) (Rqk.mono hz hs t)
end
theorem Rqs.length : ∀ {v : List V} {d : List PyData}, Rqs Z H v d → v.length = d.length
  | _, _, .nil => rfl
  | _, _, .cons _ t => congrArg (· + 1) (Rqs.length t)
theorem Rqk.length : ∀ {v : List (Key × V)} {d : List (PyData × PyData)}, Rqk Z H v d → v.length = d.length
  | _, _, .nil => rfl
  | _, _, .cons _ t => congrArg (· + 1) (Rqk.length t)
theorem Rqs.append : ∀ {v w : List V} {d e : List PyData}, Rqs Z H v d → Rqs Z H w e → Rqs Z H (v ++ w) (d ++ e)
  | _, _, _, _, .nil, s => s
  | _, _, _, _, .cons r t, s => .cons r (Rqs.append t s)
theorem Rqs.get : ∀ {v : List V} {d : List PyData} {i : Nat} {x : PyData}, Rqs Z H v d → d[i]? = some x → ∃ u, v[i]? = some u ∧ Rq Z H u x
  | _, _, _, _, .nil, e => by simp at e
  | _, _, 0, _, .cons r _, e => by simp at e; subst e; exact ⟨_, rfl, r⟩
  | _, _, i + 1, x, .cons _ t, e => by
    obtain ⟨u, h1, h2⟩ := Rqs.get (i := i) (x := x) t (by simpa using e)
    exact ⟨u, by simpa using h1, h2⟩
theorem Rqs.get' : ∀ {v : List V} {d : List PyData} {i : Nat} {u : V}, Rqs Z H v d → v[i]? = some u → ∃ x, d[i]? = some x ∧ Rq Z H u x
  | _, _, _, _, .nil, e => by simp at e
  | _, _, 0, _, .cons r _, e => by simp at e; subst e; exact ⟨_, rfl, r⟩
  | _, _, i + 1, x, .cons _ t, e => by
    obtain ⟨u, h1, h2⟩ := Rqs.get' (i := i) t (by simpa using e)
    exact ⟨u, by simpa using h1, h2⟩
theorem Rqs.take : ∀ {v : List V} {d : List PyData} (n : Nat), Rqs Z H v d → Rqs Z H (v.take n) (d.take n)
  | _, _, 0, _ => .nil
  | _, _, _ + 1, .nil => .nil
  | _, _, n + 1, .cons r t => .cons r (Rqs.take n t)
theorem Rqs.drop : ∀ {v : List V} {d : List PyData} (n : Nat), Rqs Z H v d → Rqs Z H (v.drop n) (d.drop n)
  | _, _, 0, r => r
  | _, _, _ + 1, .nil => .nil
  | _, _, n + 1, .cons _ t => Rqs.drop n t
theorem Rqs.set {u : V} {x : PyData} (r : Rq Z H u x) : ∀ {v : List V} {d : List PyData} (n : Nat), Rqs Z H v d → Rqs Z H (v.set n u) (d.set n x)
  | _, _, _, .nil => .nil
  | _, _, 0, .cons _ t => .cons r t
  | _, _, n + 1, .cons q t => .cons q (Rqs.set r n t)
theorem Rqs.eraseIdx : ∀ {v : List V} {d : List PyData} (n : Nat), Rqs Z H v d → Rqs Z H (v.eraseIdx n) (d.eraseIdx n)
  | _, _, _, .nil => .nil
  | _, _, 0, .cons _ t => t
  | _, _, n + 1, .cons q t => .cons q (Rqs.eraseIdx n t)
theorem Rqs.reverse {v : List V} {d : List PyData} (r : Rqs Z H v d) : Rqs Z H v.reverse d.reverse := by
  have go : ∀ {v w : List V} {d e : List PyData}, Rqs Z H v d → Rqs Z H w e → Rqs Z H (v.reverse ++ w) (d.reverse ++ e) := by
    intro v
    induction v with
    | nil => intro w d e r s; cases r; exact s
    | cons x v ih =>
      intro w d e r s
      cases r with
      | cons r t =>
        rw [List.reverse_cons, List.reverse_cons, List.append_assoc, List.append_assoc]
        exact ih t (.cons r s)
  have := go r (Rqs.nil (Z := Z) (H := H))
  simpa using this
theorem Rqs.rep {v : List V} {d : List PyData} (r : Rqs Z H v d) : ∀ n : Nat, Rqs Z H (List.replicate n v).flatten (List.replicate n d).flatten
  | 0 => .nil
  | n + 1 => by rw [List.replicate_succ, List.replicate_succ, List.flatten_cons, List.flatten_cons]; exact r.append (Rqs.rep r n)
/-- ints are ints -/
theorem Rqs.ints : ∀ {v : List V} {ns : List Int}, Rqs Z H v (ns.map PyData.int) → v = ns.map V.int
  | _, [], .nil => rfl
  | _, n :: ns, .cons r t => by
    cases r
    rw [List.map_cons, Rqs.ints t]
theorem Rqs.strs : ∀ {v : List V} {ns : List Str}, Rqs Z H v (ns.map PyData.str) → v = ns.map V.str
  | _, [], .nil => rfl
  | _, n :: ns, .cons r t => by
    cases r
    rw [List.map_cons, Rqs.strs t]
theorem Rqs.bools : ∀ {v : List V} {ns : List Bool}, Rqs Z H v (ns.map PyData.bool) → v = ns.map V.bl
  | _, [], .nil => rfl
  | _, n :: ns, .cons r t => by
    cases r
    rw [List.map_cons, Rqs.bools t]
theorem Rqs.of_ints : ∀ (ns : List Int), Rqs Z H (ns.map V.int) (ns.map PyData.int)
  | [] => .nil
  | n :: ns => .cons (.int n) (Rqs.of_ints ns)
theorem Rqs.of_strs : ∀ (ns : List Str), Rqs Z H (ns.map V.str) (ns.map PyData.str)
  | [] => .nil
  | n :: ns => .cons (.str n) (Rqs.of_strs ns)
end

/-- what surrounds the code: the classes' addresses, what others may change (B) while G stands -/
structure Bg where
  cls : Str → Addr
  B : Addr → Prop
  G : Hp → Prop
  loc : ∀ H H' : Hp, (∀ a, B a → H' a = H a) → G H → G H'
  dom : ∀ (H : Hp) (a : Addr), G H → B a → H a ≠ none

/-- an error: its class's name, its fields -/
structure Er where
  n : Str
  fs : List (Str × PyData)

/-- fields -/
inductive Rqf (Z : Addr → Prop) (H : Hp) : List (Str × V) → List (Str × PyData) → Prop
  | nil : Rqf Z H [] []
  | cons {k : Str} {v : V} {d : PyData} {vs : List (Str × V)} {ds : List (Str × PyData)} : Rq Z H v d → Rqf Z H vs ds → Rqf Z H ((k, v) :: vs) ((k, d) :: ds)

section
variable {Z Z' : Addr → Prop} {H H' : Hp}
theorem Rqf.mono (hz : ∀ a, Z' a → Z a ∨ H a = none) (hs : ∀ a o, H a = some o → ¬ Z a → H' a = some o) : ∀ {v : List (Str × V)} {d : List (Str × PyData)}, Rqf Z H v d → Rqf Z' H' v d
  | _, _, .nil => .nil
  | _, _, .cons r t => .cons (r.mono hz hs) (Rqf.mono hz hs t)
theorem Rqf.look : ∀ {v : List (Str × V)} {d : List (Str × PyData)} {f : Str} {x : PyData}, Rqf Z H v d → d.lookup f = some x → ∃ u, v.lookup f = some u ∧ Rq Z H u x
  | _, _, _, _, .nil, e => by simp at e
  | _, _, f, x, .cons (k := k) r t, e => by
    rw [List.lookup_cons] at e
    rw [List.lookup_cons]
    cases h : f == k with
    | true => rw [h] at e; cases e; exact ⟨_, rfl, r⟩
    | false => rw [h] at e; exact Rqf.look t e
end

/-- v is worth d -/
def Rp (b : Bg) (Z : Addr → Prop) (H : Hp) (v : V) : D → Prop
  | .py p => Rq Z H v p
  | .obj n fs => ∃ a dx xs, v = .ref a ∧ H a = some (.ins (b.cls n) dx xs) ∧ ¬ Z a ∧ Rqf Z H xs fs
  | .raw u => v = u
  | .err a d _ fs => v = .ref a ∧ ((d = none ∧ fs = []) ∨ ∃ dd xs, d = some dd ∧ H dd = some (.xd xs) ∧ ¬ Z dd ∧ Rqf Z H xs fs)
inductive Rps (b : Bg) (Z : Addr → Prop) (H : Hp) : List V → List D → Prop
  | nil : Rps b Z H [] []
  | cons {v : V} {d : D} {vs : List V} {ds : List D} : Rp b Z H v d → Rps b Z H vs ds → Rps b Z H (v :: vs) (d :: ds)

section
variable {b : Bg} {Z Z' : Addr → Prop} {H H' : Hp}
theorem Rp.mono (hz : ∀ a, Z' a → Z a ∨ H a = none) (hs : ∀ a o, H a = some o → ¬ Z a → H' a = some o) {v : V} {d : D} (r : Rp b Z H v d) : Rp b Z' H' v d := by
  cases d with
  | py p => exact Rq.mono hz hs r
  | obj n fs =>
    obtain ⟨a, dx, xs, e, h, nz, q⟩ := r
    exact ⟨a, dx, xs, e, hs _ _ h nz, fun z => (hz _ z).elim nz (fun q => by rw [h] at q; cases q), q.mono hz hs⟩
  | raw u => exact r
  | err a d n fs =>
    obtain ⟨e, r⟩ := r
    refine ⟨e, r.imp id ?_⟩
    rintro ⟨dd, xs, e1, h, nz, q⟩
    exact ⟨dd, xs, e1, hs _ _ h nz, fun z => (hz _ z).elim nz (fun q => by rw [h] at q; cases q), q.mono hz hs⟩
theorem Rps.mono (hz : ∀ a, Z' a → Z a ∨ H a = none) (hs : ∀ a o, H a = some o → ¬ Z a → H' a = some o) : ∀ {v : List V} {d : List D}, Rps b Z H v d → Rps b Z' H' v d
  | _, _, .nil => .nil
  | _, _, .cons r t => .cons (r.mono hz hs) (Rps.mono hz hs t)
theorem Rps.length : ∀ {v : List V} {d : List D}, Rps b Z H v d → v.length = d.length
  | _, _, .nil => rfl
  | _, _, .cons _ t => congrArg (· + 1) (Rps.length t)
theorem Rps.get : ∀ {v : List V} {d : List D} {i : Nat} {x : D}, Rps b Z H v d → d[i]? = some x → ∃ u, v[i]? = some u ∧ Rp b Z H u x
  | _, _, _, _, .nil, e => by simp at e
  | _, _, 0, _, .cons r _, e => by simp at e; subst e; exact ⟨_, rfl, r⟩
  | _, _, i + 1, x, .cons _ t, e => by
    obtain ⟨u, h1, h2⟩ := Rps.get (i := i) (x := x) t (by simpa using e)
    exact ⟨u, by simpa using h1, h2⟩
theorem Rps.pys : ∀ {v : List V} {d : List PyData}, Rps b Z H v (d.map D.py) → Rqs Z H v d
  | _, [], .nil => .nil
  | _, x :: d, .cons r t => .cons r (Rps.pys t)
theorem Rqs.to : ∀ {v : List V} {d : List PyData}, Rqs Z H v d → Rps b Z H v (d.map D.py)
  | _, _, .nil => .nil
  | _, _, .cons r t => .cons r (Rqs.to t)
end

/-- an owned object: it lies in Z itself, its items do not -/
def Ow (b : Bg) (Z : Addr → Prop) (H : Hp) (a : Addr) : D → Prop
  | .py (.list ds) => ∃ xs, H a = some (.lst xs) ∧ Rqs Z H xs ds
  | .py (.dict ds) => ∃ kvs, H a = some (.dK kvs) ∧ Rqk Z H kvs ds
  | .obj n fs => ∃ dx xs, H a = some (.ins (b.cls n) dx xs) ∧ Rqf Z H xs fs
  | _ => False
section
variable {b : Bg} {Z Z' : Addr → Prop} {H H' : Hp} {a : Addr} {d : D}
theorem Ow.at (h : Ow b Z H a d) : ∃ o, H a = some o := by
  cases d with
  | py p =>
    cases p with
    | list ds => obtain ⟨xs, e, _⟩ := h; exact ⟨_, e⟩
    | dict ds => obtain ⟨xs, e, _⟩ := h; exact ⟨_, e⟩
    | _ => exact False.elim h
  | obj n fs => obtain ⟨dx, xs, e, _⟩ := h; exact ⟨_, e⟩
  | raw u => exact False.elim h
  | err _ _ _ _ => exact False.elim h
theorem Ow.mono (hz : ∀ a, Z' a → Z a ∨ H a = none) (hs : ∀ a o, H a = some o → ¬ Z a → H' a = some o) (ha : ∀ o, H a = some o → H' a = some o) (h : Ow b Z H a d) : Ow b Z' H' a d := by
  cases d with
  | py p =>
    cases p with
    | list ds => obtain ⟨xs, e, r⟩ := h; exact ⟨xs, ha _ e, r.mono hz hs⟩
    | dict ds => obtain ⟨xs, e, r⟩ := h; exact ⟨xs, ha _ e, r.mono hz hs⟩
    | _ => exact False.elim h
  | obj n fs => obtain ⟨dx, xs, e, r⟩ := h; exact ⟨dx, xs, ha _ e, r.mono hz hs⟩
  | raw u => exact False.elim h
  | err _ _ _ _ => exact False.elim h
/-- given away -/
theorem Ow.rp (hz : ∀ a, Z' a → Z a) (na : ¬ Z' a) (h : Ow b Z H a d) : Rp b Z' H (.ref a) d := by
  have hm : ∀ a, Z' a → Z a ∨ H a = none := fun a z => .inl (hz a z)
  cases d with
  | py p =>
    cases p with
    | list ds => obtain ⟨xs, e, r⟩ := h; exact Rq.lst e na (r.mono hm fun _ _ e _ => e)
    | dict ds => obtain ⟨xs, e, r⟩ := h; exact Rq.dct e na (r.mono hm fun _ _ e _ => e)
    | _ => exact False.elim h
  | obj n fs => obtain ⟨dx, xs, e, r⟩ := h; exact ⟨a, dx, xs, rfl, e, na, r.mono hm fun _ _ e _ => e⟩
  | raw u => exact False.elim h
  | err _ _ _ _ => exact False.elim h
end
end VL
set_option Elab.async false
set_option linter.all false
set_option maxRecDepth 100000
set_option maxHeartbeats 4000000
namespace VL
open PySem PySem.Spec PyProof.Rows L2

/-- a name's slot: nothing known, a shared value, an object that nobody else holds -/
inductive Slot where
  | un | shr (d : D) | own (d : D)
abbrev VEnv := List Slot

/-- all that stood and may not be changed by others stands -/
def Ex (b : Bg) (H H' : Hp) : Prop := ∀ a o, H a = some o → ¬ b.B a → H' a = some o
section
variable {b : Bg} {H H1 H2 : Hp}
theorem Ex.refl : Ex b H H := fun _ _ e _ => e
theorem Ex.trans (x : Ex b H H1) (y : Ex b H1 H2) : Ex b H H2 := fun a o e n => y a o (x a o e n) n
theorem Ex.new {a : Addr} {o : HO} (h : H a = none) : Ex b H (upd H a o) := fun c u e _ => by
  rw [upd_ne (ne_of_none e h)]
  exact e
theorem Bg.new {a : Addr} {o : HO} (g : b.G H) (h : H a = none) : b.G (upd H a o) :=
  b.loc H _ (fun c hc => upd_ne fun e => b.dom H c g hc (by rw [e]; exact h)) g
end

/-- the names' values and what they own. Zo: what the callers own, and B; Z: all that is owned now -/
structure VOk (b : Bg) (Zo Z : Addr → Prop) (σ : L2.St) (H : Hp) (ρ : VEnv) : Prop where
  g : b.G H
  zb : ∀ a, b.B a → Zo a
  zo : ∀ a, Zo a → Z a
  dom : ∀ a, Z a → H a ≠ none
  zi : ∀ a, Z a → Zo a ∨ ∃ (i : Nat) (d : D), ρ[i]? = some (.own d) ∧ σ[i]? = some (some (.ref a))
  own : ∀ (i : Nat) (d : D), ρ[i]? = some (.own d) → ∃ a, σ[i]? = some (some (.ref a)) ∧ Z a ∧ ¬ Zo a ∧ Ow b Z H a d
  inj : ∀ (i j : Nat) (d e : D) (a : Addr), ρ[i]? = some (.own d) → ρ[j]? = some (.own e) → σ[i]? = some (some (.ref a)) → σ[j]? = some (some (.ref a)) → i = j
  shr : ∀ (i : Nat) (d : D), ρ[i]? = some (.shr d) → ∃ v, σ[i]? = some (some v) ∧ Rp b Z H v d
  len : ρ.length = σ.length

section
variable {b : Bg} {Zo Z : Addr → Prop} {σ : L2.St} {H H' : Hp} {ρ : VEnv}
theorem VOk.nb (v : VOk b Zo Z σ H ρ) {a : Addr} (h : ¬ Z a) : ¬ b.B a := fun z => h (v.zo _ (v.zb _ z))
theorem VOk.fresh (v : VOk b Zo Z σ H ρ) {a : Addr} (h : H a = none) : ¬ Z a := fun z => v.dom a z h
theorem VOk.keep (v : VOk b Zo Z σ H ρ) (x : Ex b H H') : ∀ a o, H a = some o → ¬ Z a → H' a = some o := fun a o e n => x a o e (v.nb n)
theorem VOk.rp (v : VOk b Zo Z σ H ρ) (x : Ex b H H') {u : V} {d : D} (r : Rp b Z H u d) : Rp b Z H' u d := r.mono (fun a z => .inl z) (v.keep x)
theorem VOk.rps (v : VOk b Zo Z σ H ρ) (x : Ex b H H') {u : List V} {d : List D} (r : Rps b Z H u d) : Rps b Z H' u d := r.mono (fun a z => .inl z) (v.keep x)
theorem VOk.rq (v : VOk b Zo Z σ H ρ) (x : Ex b H H') {u : V} {d : PyData} (r : Rq Z H u d) : Rq Z H' u d := r.mono (fun a z => .inl z) (v.keep x)
theorem VOk.rqs (v : VOk b Zo Z σ H ρ) (x : Ex b H H') {u : List V} {d : List PyData} (r : Rqs Z H u d) : Rqs Z H' u d := r.mono (fun a z => .inl z) (v.keep x)
/-- behind an expression -/
theorem VOk.ex (v : VOk b Zo Z σ H ρ) (x : Ex b H H') (g : b.G H') : VOk b Zo Z σ H' ρ where
  g := g
  zb := v.zb
  zo := v.zo
  dom := fun a z => by
    by_cases hb : b.B a
    · exact b.dom H' a g hb
    · cases e : H a with
      | none => exact absurd e (v.dom a z)
      | some o => rw [x a o e hb]; simp
  zi := v.zi
  own := fun i d e => by
    obtain ⟨a, h1, h2, h3, h4⟩ := v.own i d e
    exact ⟨a, h1, h2, h3, h4.mono (fun _ z => .inl z) (v.keep x) fun o q => x a o q fun z => h3 (v.zb a z)⟩
  inj := v.inj
  shr := fun i d e => by
    obtain ⟨u, h1, h2⟩ := v.shr i d e
    exact ⟨u, h1, v.rp x h2⟩
  len := v.len
theorem VOk.new (v : VOk b Zo Z σ H ρ) {a : Addr} {o : HO} (h : H a = none) : VOk b Zo Z σ (upd H a o) ρ := v.ex (Ex.new h) (Bg.new v.g h)
/-- an object of an outer one, new and held apart -/
theorem VOk.more (v : VOk b Zo Z σ H ρ) {a : Addr} (ha : H a ≠ none) (hz : ¬ Z a)
    (hs : ∀ (u : V) (d : D), Rp b Z H u d → Rp b (fun c => Z c ∨ c = a) H u d) (hw : ∀ (c : Addr) (d : D), Ow b Z H c d → Ow b (fun c => Z c ∨ c = a) H c d) :
    VOk b (fun c => Zo c ∨ c = a) (fun c => Z c ∨ c = a) σ H ρ where
  g := v.g
  zb := fun c z => .inl (v.zb c z)
  zo := fun c z => z.imp (v.zo c) id
  dom := fun c z => z.elim (v.dom c) fun e => by rw [e]; exact ha
  zi := fun c z => z.elim (fun z => (v.zi c z).imp .inl id) fun e => .inl (.inr e)
  own := fun i d e => by
    obtain ⟨c, h1, h2, h3, h4⟩ := v.own i d e
    exact ⟨c, h1, .inl h2, fun z => z.elim h3 fun q => hz (q ▸ h2), hw c d h4⟩
  inj := v.inj
  shr := fun i d e => by
    obtain ⟨u, h1, h2⟩ := v.shr i d e
    exact ⟨u, h1, hs u d h2⟩
  len := v.len
end

/-! ### readings -/
abbrev VT := VEnv → (D → Prop) → (Er → Prop) → Prop
abbrev VB := VEnv → (Bool → Prop) → (Er → Prop) → Prop
abbrev VA := VEnv → (List D → Prop) → (Er → Prop) → Prop

/-- an error as it lies: its class, its own dict -/
def ErRp (b : Bg) (Z : Addr → Prop) (H : Hp) (c : Value) (d : Option Addr) (er : Er) : Prop :=
  c = .ref (b.cls er.n) ∧ ((d = none ∧ er.fs = []) ∨ ∃ a xs, d = some a ∧ H a = some (.xd xs) ∧ ¬ Z a ∧ Rqf Z H xs er.fs)

/-- a borrowed value: it may be an owned object itself -/
def Rb (b : Bg) (Z : Addr → Prop) (H : Hp) (v : V) (d : D) : Prop := Rp b Z H v d ∨ ∃ a, v = .ref a ∧ ¬ b.B a ∧ Z a ∧ Ow b Z H a d
/-- a new object that nobody holds -/
def Rn (b : Bg) (Z : Addr → Prop) (H0 H : Hp) (v : V) (d : D) : Prop := ∃ a, v = .ref a ∧ H0 a = none ∧ Ow b (fun c => Z c ∨ c = a) H a d

/-- how a reading over values is one over the heap -/
def LE (b : Bg) (W : WX) (R : (Addr → Prop) → Hp → Hp → V → D → Prop) (t : VT) : TE := fun σ H Q => ∃ Zo Z ρ Qd Ed, VOk b Zo Z σ H ρ ∧ t ρ Qd Ed ∧
  (∀ v H' d, Ex b H H' → b.G H' → R Z H H' v d → Qd d → Q v H') ∧ ∀ c x H' er, Ex b H H' → b.G H' → ErRp b Z H' c x er → Ed er → W c x σ H'
def LB (b : Bg) (W : WX) (t : VB) : TT := fun σ H Q => ∃ Zo Z ρ Qd Ed, VOk b Zo Z σ H ρ ∧ t ρ Qd Ed ∧
  (∀ k H', Ex b H H' → b.G H' → Qd k → Q k H') ∧ ∀ c x H' er, Ex b H H' → b.G H' → ErRp b Z H' c x er → Ed er → W c x σ H'
def LA (b : Bg) (W : WX) (t : VA) : TA := fun σ H Q => ∃ Zo Z ρ Qd Ed, VOk b Zo Z σ H ρ ∧ t ρ Qd Ed ∧
  (∀ v H' d, Ex b H H' → b.G H' → Rps b Z H' v d → Qd d → Q v H') ∧ ∀ c x H' er, Ex b H H' → b.G H' → ErRp b Z H' c x er → Ed er → W c x σ H'

/-- an expression: its value; borrowed; new -/
def VE (X : Cx) (b : Bg) (W : WX) (e : Expr) (t : VT) : Prop := PE X e (LE b W (fun Z _ H v d => Rp b Z H v d) t)
def VX (X : Cx) (b : Bg) (W : WX) (e : Expr) (t : VT) : Prop := PE X e (LE b W (fun Z _ H v d => Rb b Z H v d) t)
def VN (X : Cx) (b : Bg) (W : WX) (e : Expr) (t : VT) : Prop := PE X e (LE b W (fun Z H0 H v d => Rn b Z H0 H v d) t)
def VTe (X : Cx) (b : Bg) (W : WX) (e : Expr) (t : VB) : Prop := PT X e (LB b W t)
def VAs (X : Cx) (b : Bg) (W : WX) (es : List Expr) (t : VA) : Prop := PA X es (LA b W t)

theorem pe_mono {X : Cx} {e : Expr} {t t' : TE} (h : PE X e t) (m : ∀ σ H Q, t' σ H Q → t σ H Q) : PE X e t' :=
  ⟨fun pins s σ H Q I q => h.run pins s σ H Q I (m σ H Q q)⟩
theorem pt_mono {X : Cx} {e : Expr} {t t' : TT} (h : PT X e t) (m : ∀ σ H Q, t' σ H Q → t σ H Q) : PT X e t' :=
  ⟨fun pins s σ H Q I q => h.run pins s σ H Q I (m σ H Q q)⟩
theorem pa_mono {X : Cx} {e : List Expr} {t t' : TA} (h : PA X e t) (m : ∀ σ H Q, t' σ H Q → t σ H Q) : PA X e t' :=
  ⟨fun pos pins s σ H Q I q => h.run pos pins s σ H Q I (m σ H Q q)⟩
theorem ps_mono {X : Cx} {e : Stmt} {t t' : TS} (h : PS X e t) (m : ∀ D σ H, t' D σ H → t D σ H) : PS X e t' :=
  ⟨fun pins s σ H D I q => h.run pins s σ H D I (m D σ H q)⟩
theorem pss_mono {X : Cx} {e : List Stmt} {t t' : TS} (h : PSs X e t) (m : ∀ D σ H, t' D σ H → t D σ H) : PSs X e t' :=
  ⟨fun pins s σ H D I q => h.run pins s σ H D I (m D σ H q)⟩

section
variable {X : Cx} {b : Bg} {W : WX} {e e1 e2 : Expr} {es : List Expr} {t t1 t2 : VT} {pos : Pos}
theorem VE.toX (h : VE X b W e t) : VX X b W e t := pe_mono h fun σ H Q ⟨Zo, Z, ρ, Qd, Ed, v, q, l, m⟩ => ⟨Zo, Z, ρ, Qd, Ed, v, q, fun u H' d x g r => l u H' d x g (.inl r), m⟩
theorem VN.toE (h : VN X b W e t) : VE X b W e t := pe_mono h fun σ H Q ⟨Zo, Z, ρ, Qd, Ed, v, q, l, m⟩ => ⟨Zo, Z, ρ, Qd, Ed, v, q, fun u H' d x g ⟨a, e, n, o⟩ => by
  subst e
  exact l _ H' d x g (o.rp (fun _ z => .inl z) (v.fresh n)), m⟩
theorem VN.toX (h : VN X b W e t) : VX X b W e t := VE.toX (VN.toE h)

/-! ### names, constants -/
@[simp] def vVar (i : Nat) : VT := fun ρ Q _ => ∃ d, ρ[i]? = some (.shr d) ∧ Q d
@[simp] def vBor (i : Nat) : VT := fun ρ Q _ => ∃ d, (ρ[i]? = some (.shr d) ∨ ρ[i]? = some (.own d)) ∧ Q d
@[simp] def vC (d : D) : VT := fun _ Q _ => Q d
theorem ve_var {i : Nat} (h : PE X e (tVar i)) : VE X b W e (vVar i) := pe_mono h fun σ H Q ⟨Zo, Z, ρ, Qd, Ed, v, ⟨d, e, q⟩, l, _⟩ => by
  obtain ⟨u, h1, h2⟩ := v.shr i d e
  exact ⟨u, h1, l u H d Ex.refl v.g h2 q⟩
theorem vx_var {i : Nat} (h : PE X e (tVar i)) : VX X b W e (vBor i) := pe_mono h fun σ H Q ⟨Zo, Z, ρ, Qd, Ed, v, ⟨d, e, q⟩, l, _⟩ => by
  rcases e with e | e
  · obtain ⟨u, h1, h2⟩ := v.shr i d e
    exact ⟨u, h1, l u H d Ex.refl v.g (.inl h2) q⟩
  · obtain ⟨a, h1, h2, h3, h4⟩ := v.own i d e
    exact ⟨.ref a, h1, l _ H d Ex.refl v.g (.inr ⟨a, rfl, fun z => h3 (v.zb a z), h2, h4⟩) q⟩
theorem ve_const {v : V} {p : PyData} (h : PE X e (tC v)) (r : ∀ (Z : Addr → Prop) (H : Hp), Rq Z H v p) : VE X b W e (vC (.py p)) :=
  pe_mono h fun σ H Q ⟨Zo, Z, ρ, Qd, Ed, v, q, l, _⟩ => l _ H (.py p) Ex.refl v.g (r Z H) q
theorem ve_int {i : Int} {j} : VE X b W (.Constant (.int i) j pos) (vC (.py (.int i))) := ve_const pe_int fun _ _ => .int i
theorem ve_bl {k : Bool} {j} : VE X b W (.Constant (.bool k) j pos) (vC (.py (.bool k))) := ve_const pe_bl fun _ _ => .bl k
theorem ve_non {j} : VE X b W (.Constant .none j pos) (vC (.py .none)) := ve_const pe_non fun _ _ => .non
theorem ve_str {x : Str} {j} : VE X b W (.Constant (.str x) j pos) (vC (.py (.str x))) := ve_const pe_str fun _ _ => .str x
theorem ve_raw {v : V} (h : PE X e (tC v)) : VE X b W e (vC (.raw v)) :=
  pe_mono h fun σ H Q ⟨Zo, Z, ρ, Qd, Ed, u, q, l, _⟩ => l v H (.raw v) Ex.refl u.g rfl q

/-! ### argument lists, displays -/
@[simp] def vNil : VA := fun _ Q _ => Q []
@[simp] def vCons (t : VT) (u : VA) : VA := fun ρ Q E => t ρ (fun d => u ρ (fun ds => Q (d :: ds)) E) E
theorem va_nil : VAs X b W [] vNil := pa_mono pa_nil fun σ H Q ⟨Zo, Z, ρ, Qd, Ed, v, q, l, _⟩ => l [] H [] Ex.refl v.g .nil q
theorem ErRp.mono {Z : Addr → Prop} {H H' : Hp} {c : Value} {d : Option Addr} {er : Er} (hs : ∀ a o, H a = some o → ¬ Z a → H' a = some o) (r : ErRp b Z H c d er) : ErRp b Z H' c d er := by
  obtain ⟨h, r⟩ := r
  refine ⟨h, r.imp id ?_⟩
  rintro ⟨a, xs, h1, h2, h3, h4⟩
  exact ⟨a, xs, h1, hs _ _ h2 h3, h3, h4.mono (fun _ z => .inl z) hs⟩
theorem va_cons {u : VA} (h : VE X b W e t) (k : VAs X b W es u) (hs : starEach (e :: es) X.env = (false, eval e X.env) :: starEach es X.env := by rfl) : VAs X b W (e :: es) (vCons t u) :=
  pa_mono (pa_cons h k hs) fun σ H Q ⟨Zo, Z, ρ, Qd, Ed, v, q, l, m⟩ => ⟨Zo, Z, ρ, _, Ed, v, q, fun x H1 d x1 g1 r1 q1 =>
    ⟨Zo, Z, ρ, _, Ed, v.ex x1 g1, q1, fun xs H2 ds x2 g2 r2 q2 => l (x :: xs) H2 (d :: ds) (x1.trans x2) g2 (.cons ((v.ex x1 g1).rp x2 r1) r2) q2, fun c y H2 er x2 g2 r2 q2 => m c y H2 er (x1.trans x2) g2 r2 q2⟩, m⟩

@[simp] def pys : List D → Option (List PyData)
  | [] => some []
  | .py p :: ds => (pys ds).map (p :: ·)
  | _ :: _ => none
theorem pys_of : ∀ {ds : List D} {ps : List PyData}, pys ds = some ps → ds = ps.map D.py
  | [], ps, h => by cases h; rfl
  | .py p :: ds, ps, h => by
    cases e : pys ds with
    | none => rw [pys, e] at h; cases h
    | some qs => rw [pys, e] at h; cases h; rw [List.map_cons, ← pys_of e]
  | .obj _ _ :: _, _, h => by cases h
  | .raw _ :: _, _, h => by cases h
  | .err _ _ _ _ :: _, _, h => by cases h
theorem Rqs.up' {Z : Addr → Prop} {H : Hp} {a : Addr} {o : HO} {v : List V} {ds : List PyData} (r : Rqs Z H v ds) (h : H a = none) : Rqs (fun c => Z c ∨ c = a) (upd H a o) v ds :=
  r.mono (fun c z => z.imp id fun e => by rw [e]; exact h) fun c u e _ => by
    rw [upd_ne (ne_of_none e h)]
    exact e
/-- a tuple, a list of written items -/
@[simp] def vTup (u : VA) : VT := fun ρ Q E => u ρ (fun ds => ∃ ps, pys ds = some ps ∧ ps.length ≤ sizeLine ∧ Q (.py (.tuple ps))) E
@[simp] def vLst (u : VA) : VT := fun ρ Q E => u ρ (fun ds => ∃ ps, pys ds = some ps ∧ ps.length ≤ sizeLine ∧ Q (.py (.list ps))) E
theorem Rps.pyL {Z : Addr → Prop} {H : Hp} {v : List V} {ds : List D} {ps : List PyData} (r : Rps b Z H v ds) (e : VL.pys ds = some ps) : Rqs Z H v ps := by
  rw [pys_of e] at r
  exact r.pys
theorem up {Z : Addr → Prop} {H : Hp} {a : Addr} {o : HO} (h : H a = none) : ∀ c u, H c = some u → ¬ Z c → upd H a o c = some u := fun c u e _ => by
  rw [upd_ne (ne_of_none e h)]
  exact e
theorem Rqs.up {Z : Addr → Prop} {H : Hp} {a : Addr} {o : HO} {v : List V} {ds : List PyData} (r : Rqs Z H v ds) (h : H a = none) : Rqs Z (upd H a o) v ds := r.mono (fun _ z => .inl z) (VL.up h)
theorem ve_tup {u : VA} {x1} (k : VAs X b W es u) : VE X b W (.Tuple es x1 pos) (vTup u) :=
  pe_mono (pe_tupF k) fun σ H Q ⟨Zo, Z, ρ, Qd, Ed, v, q, l, m⟩ => ⟨Zo, Z, ρ, _, Ed, v, q, fun xs H1 ds x1 g1 r1 ⟨ps, e, hl, q1⟩ => by
    have r2 := r1.pyL e
    refine ⟨by rw [r2.length]; exact hl, fun p o hp ho => l _ _ _ (x1.trans (Ex.new hp)) (Bg.new g1 hp) ?_ q1⟩
    exact Rq.tup upd_same ho ((v.ex x1 g1).fresh hp) (r2.up hp), m⟩
theorem vn_lst {u : VA} (k : VAs X b W es u) : VN X b W (.List es pos) (vLst u) :=
  pe_mono (pe_lst k) fun σ H Q ⟨Zo, Z, ρ, Qd, Ed, v, q, l, m⟩ => ⟨Zo, Z, ρ, _, Ed, v, q, fun xs H1 ds x1 g1 r1 ⟨ps, e, hl, q1⟩ => (by
    have r2 := r1.pyL e
    refine ⟨by rw [r2.length]; exact hl, fun p hp => l _ _ (.py (.list ps)) (x1.trans (Ex.new hp)) (Bg.new g1 hp) ⟨p, rfl, ?_, xs, upd_same, r2.up' hp⟩ q1⟩
    cases e : H p with
    | none => rfl
    | some o =>
      by_cases hb : b.B p
      · exact absurd hp (b.dom _ _ g1 hb)
      · rw [x1 p o e hb] at hp; cases hp), m⟩
end
end VL
set_option Elab.async false
set_option linter.all false
set_option maxRecDepth 100000
set_option maxHeartbeats 4000000
namespace VL
open PySem PySem.Spec PyProof.Rows L2

/-! ### what a borrowed value is -/
section
variable {b : Bg} {Z : Addr → Prop} {H : Hp} {v : V}
theorem Rb.list {ds : List PyData} (r : Rb b Z H v (.py (.list ds))) : ∃ a xs, v = .ref a ∧ H a = some (.lst xs) ∧ Rqs Z H xs ds := by
  rcases r with r | ⟨a, e, _, _, xs, h, q⟩
  · cases r with
    | lst e n q => exact ⟨_, _, rfl, e, q⟩
  · exact ⟨a, xs, e, h, q⟩
theorem Rb.dict {ds : List (PyData × PyData)} (r : Rb b Z H v (.py (.dict ds))) : ∃ a xs, v = .ref a ∧ H a = some (.dK xs) ∧ Rqk Z H xs ds := by
  rcases r with r | ⟨a, e, _, _, xs, h, q⟩
  · cases r with
    | dct e n q => exact ⟨_, _, rfl, e, q⟩
  · exact ⟨a, xs, e, h, q⟩
theorem Rb.tuple {ds : List PyData} (r : Rb b Z H v (.py (.tuple ds))) : ∃ a o xs, v = .ref a ∧ H a = some (HO.th o xs) ∧ o.dict = none ∧ ¬ Z a ∧ Rqs Z H xs ds := by
  rcases r with r | ⟨a, e, _, _, q⟩
  · cases r with
    | tup e d n q => exact ⟨_, _, _, rfl, e, d, n, q⟩
  · exact q.elim
theorem Rb.int {i : Int} (r : Rb b Z H v (.py (.int i))) : v = .int i := by
  rcases r with r | ⟨a, e, _, _, q⟩
  · cases r; rfl
  · exact q.elim
theorem Rb.str {i : Str} (r : Rb b Z H v (.py (.str i))) : v = .str i := by
  rcases r with r | ⟨a, e, _, _, q⟩
  · cases r; rfl
  · exact q.elim
theorem Rb.bool {i : Bool} (r : Rb b Z H v (.py (.bool i))) : v = .bl i := by
  rcases r with r | ⟨a, e, _, _, q⟩
  · cases r; rfl
  · exact q.elim
theorem Rb.none (r : Rb b Z H v (.py .none)) : v = .non := by
  rcases r with r | ⟨a, e, _, _, q⟩
  · cases r; rfl
  · exact q.elim
theorem Rb.obj {n : Str} {fs : List (Str × PyData)} (r : Rb b Z H v (.obj n fs)) : ∃ a dx xs, v = .ref a ∧ H a = some (.ins (b.cls n) dx xs) ∧ Rqf Z H xs fs := by
  rcases r with ⟨a, dx, xs, e, h, _, q⟩ | ⟨a, e, _, _, dx, xs, h, q⟩
  · exact ⟨a, dx, xs, e, h, q⟩
  · exact ⟨a, dx, xs, e, h, q⟩
theorem Rb.ex {H' : Hp} (hk : ∀ a o, H a = some o → ¬ Z a → H' a = some o) (x : Ex b H H') {d : D} (r : Rb b Z H v d) : Rb b Z H' v d := by
  rcases r with r | ⟨a, e, nb, z, q⟩
  · exact .inl (r.mono (fun _ z => .inl z) hk)
  · exact .inr ⟨a, e, nb, z, q.mono (fun _ z => .inl z) hk fun o h => x a o h nb⟩
end

/-- the ground of a rule by values: G stands, B lies in Z, Z is there -/
structure Gd (b : Bg) (Z : Addr → Prop) (H : Hp) : Prop where
  g : b.G H
  zb : ∀ a, b.B a → Z a
  dom : ∀ a, Z a → H a ≠ none
theorem VOk.gd {b : Bg} {Zo Z : Addr → Prop} {σ : L2.St} {H : Hp} {ρ : VEnv} (v : VOk b Zo Z σ H ρ) : Gd b Z H := ⟨v.g, fun a z => v.zo a (v.zb a z), v.dom⟩
section
variable {b : Bg} {Z : Addr → Prop} {H : Hp}
theorem Gd.fresh (g : Gd b Z H) {a : Addr} (h : H a = none) : ¬ Z a := fun z => g.dom a z h
theorem Gd.new (g : Gd b Z H) {a : Addr} {o : HO} (h : H a = none) : b.G (upd H a o) := Bg.new g.g h
end

/-- a rule by the heap's values serves a reading g over values; R: what comes of it -/
def OpD (b : Bg) (R : (Addr → Prop) → Hp → Hp → V → D → Prop) (r : R2) (g : D → D → (D → Prop) → Prop) : Prop :=
  ∀ (Z : Addr → Prop) (H : Hp) (x y : V) (dx dy : D) (Q : VK) (Qd : D → Prop), Gd b Z H → Rb b Z H x dx → Rb b Z H y dy → g dx dy Qd →
    (∀ v H' d, Ex b H H' → b.G H' → R Z H H' v d → Qd d → Q v H') → r x y H Q
abbrev RE (b : Bg) : (Addr → Prop) → Hp → Hp → V → D → Prop := fun Z _ H v d => Rp b Z H v d
abbrev RN (b : Bg) : (Addr → Prop) → Hp → Hp → V → D → Prop := fun Z H0 H v d => Rn b Z H0 H v d

@[simp] def vBin (g : D → D → (D → Prop) → Prop) (ta tb : VT) : VT := fun ρ Q E => ta ρ (fun x => tb ρ (fun y => g x y Q) E) E
@[simp] def vUn (g : D → (D → Prop) → Prop) (ta : VT) : VT := fun ρ Q E => ta ρ (fun x => g x Q) E

theorem Rn.of {b : Bg} {Z : Addr → Prop} {H H1 H2 : Hp} {v : V} {d : D} (g : b.G H1) (x : Ex b H H1) (r : Rn b Z H1 H2 v d) : Rn b Z H H2 v d := by
  obtain ⟨a, e, h, o⟩ := r
  refine ⟨a, e, ?_, o⟩
  cases q : H a with
  | none => rfl
  | some u =>
    by_cases hb : b.B a
    · exact absurd h (b.dom _ _ g hb)
    · rw [x a u q hb] at h; cases h

section
variable {X : Cx} {b : Bg} {W : WX} {e e1 e2 e3 : Expr} {es : List Expr} {t t1 t2 t3 : VT} {pos : Pos} {r : R2} {g : D → D → (D → Prop) → Prop}
/-- the core of all rules of two values -/
theorem core2 {R : (Addr → Prop) → Hp → Hp → V → D → Prop} (hR : ∀ Z H H1 H2 v d, b.G H1 → Ex b H H1 → R Z H1 H2 v d → R Z H H2 v d) (hd : OpD b R r g) :
    ∀ σ H Q, LE b W R (vBin g t1 t2) σ H Q → tOp r (LE b W (fun Z _ H v d => Rb b Z H v d) t1) (LE b W (fun Z _ H v d => Rb b Z H v d) t2) σ H Q :=
  fun σ H Q ⟨Zo, Z, ρ, Qd, Ed, v, q, l, m⟩ => ⟨Zo, Z, ρ, _, Ed, v, q, fun x H1 d x1 g1 r1 q1 =>
    ⟨Zo, Z, ρ, _, Ed, v.ex x1 g1, q1, fun y H2 d2 x2 g2 r2 q2 =>
      hd Z H2 x y d d2 Q Qd ((v.ex x1 g1).ex x2 g2).gd (r1.ex ((v.ex x1 g1).keep x2) x2) r2 q2 fun u H3 d3 x3 g3 r3 q3 => l u H3 d3 ((x1.trans x2).trans x3) g3 (hR _ _ _ _ _ _ g2 (x1.trans x2) r3) q3,
      fun c z H2 er x2 g2 r2 q2 => m c z H2 er (x1.trans x2) g2 r2 q2⟩, m⟩
theorem hRE : ∀ (Z : Addr → Prop) (H H1 H2 : Hp) (v : V) (d : D), b.G H1 → Ex b H H1 → RE b Z H1 H2 v d → RE b Z H H2 v d := fun _ _ _ _ _ _ _ _ r => r
theorem hRN : ∀ (Z : Addr → Prop) (H H1 H2 : Hp) (v : V) (d : D), b.G H1 → Ex b H H1 → RN b Z H1 H2 v d → RN b Z H H2 v d := fun _ _ _ _ _ _ g x r => r.of g x
theorem ve_op {op : Operator} (ho : OpR X (binaryOp op) r) (hd : OpD b (RE b) r g) (h1 : VX X b W e1 t1) (h2 : VX X b W e2 t2) : VE X b W (.BinOp e1 op e2 pos) (vBin g t1 t2) :=
  pe_mono (pe_op ho h1 h2) (core2 hRE hd)
theorem vn_op {op : Operator} (ho : OpR X (binaryOp op) r) (hd : OpD b (RN b) r g) (h1 : VX X b W e1 t1) (h2 : VX X b W e2 t2) : VN X b W (.BinOp e1 op e2 pos) (vBin g t1 t2) :=
  pe_mono (pe_op ho h1 h2) (core2 hRN hd)
theorem ve_cmp {op : CmpOp} (ho : OpR X (compareOp op) r) (hd : OpD b (RE b) r g) (h1 : VX X b W e1 t1) (h2 : VX X b W e2 t2) (hm : behindInMarks op e2 = false) : VE X b W (.Compare e1 [op] [e2] pos) (vBin g t1 t2) :=
  pe_mono (pe_cmpR ho h1 h2 hm) (core2 hRE hd)
/-- a value that is a bool, as a test -/
@[simp] def vTst (t : VT) : VB := fun ρ Q E => t ρ (fun d => ∃ k, d = .py (.bool k) ∧ Q k) E
theorem core2t (hd : OpD b (RE b) r g) : ∀ σ H Q, LB b W (vTst (vBin g t1 t2)) σ H Q → tTest (tOp r (LE b W (fun Z _ H v d => Rb b Z H v d) t1) (LE b W (fun Z _ H v d => Rb b Z H v d) t2)) σ H Q :=
  fun σ H Q ⟨Zo, Z, ρ, Qd, Ed, v, q, l, m⟩ => core2 (t1 := t1) (t2 := t2) hRE hd σ H _ ⟨Zo, Z, ρ, _, Ed, v, q, fun x H1 d x1 g1 r1 ⟨k, e, q1⟩ => ⟨k, by
    subst e
    exact Rb.bool (b := b) (.inl r1), l k H1 x1 g1 q1⟩, m⟩
theorem vt_cmp {op : CmpOp} (ho : OpR X (compareOp op) r) (hd : OpD b (RE b) r g) (h1 : VX X b W e1 t1) (h2 : VX X b W e2 t2) (hm : behindInMarks op e2 = false) : VTe X b W (.Compare e1 [op] [e2] pos) (vTst (vBin g t1 t2)) :=
  pt_mono (pt_cmpR ho h1 h2 hm) (core2t hd)
/-- any expression whose value is a bool, as a test -/
theorem vt_val (h : VX X b W e t) (he : ∀ whole, isTrue e X.env whole = (do let v ← whole; standAt e.pos; holding [v] (truthy v)) := by intro _; rfl) : VTe X b W e (vTst t) :=
  pt_mono (pt_val h he) fun σ H Q ⟨Zo, Z, ρ, Qd, Ed, v, q, l, m⟩ => ⟨Zo, Z, ρ, _, Ed, v, q, fun x H1 d x1 g1 r1 ⟨k, e, q1⟩ => ⟨k, by
    subst e
    exact r1.bool, l k H1 x1 g1 q1⟩, m⟩

/-! ### arithmetic -/
@[simp] def gAdd : D → D → (D → Prop) → Prop
  | .py (.int i), .py (.int j), Q => Q (.py (.int (i + j)))
  | .py (.str x), .py (.str y), Q => x.length + y.length ≤ sizeLine ∧ Q (.py (.str (x ++ y)))
  | .py (.list x), .py (.list y), Q => x.length + y.length ≤ sizeLine ∧ Q (.py (.list (x ++ y)))
  | .py (.tuple x), .py (.tuple y), Q => x.length + y.length ≤ sizeLine ∧ Q (.py (.tuple (x ++ y)))
  | _, _, _ => False
@[simp] def gCat : D → D → (D → Prop) → Prop
  | .py (.list x), .py (.list y), Q => x.length + y.length ≤ sizeLine ∧ Q (.py (.list (x ++ y)))
  | _, _, _ => False
def rStrAdd : R2 := fun x y H Q => ∃ i j, x = .str i ∧ y = .str j ∧ i.length + j.length ≤ sizeLine ∧ Q (.str (i ++ j)) H
theorem rn_catL : OpD b (RN b) rCat gCat := by
  intro Z H x y dx dy Q Qd gd rx ry h k
  match dx, dy, h, rx, ry with
  | .py (.list xs), .py (.list ys), ⟨hl, h⟩, rx, ry =>
    obtain ⟨a, us, rfl, ha, qa⟩ := rx.list
    obtain ⟨c, ws, rfl, hc, qc⟩ := ry.list
    refine ⟨a, c, us, ws, rfl, rfl, ha, hc, by rw [qa.length, qc.length]; exact hl, fun p hp => k _ _ (.py (.list (xs ++ ys))) (Ex.new hp) (gd.new hp) ⟨p, rfl, hp, _, upd_same, (qa.append qc).up' hp⟩ h⟩
theorem OpD.toE {r : R2} {g : D → D → (D → Prop) → Prop} (h : OpD b (RN b) r g) : OpD b (RE b) r g := fun Z H x y dx dy Q Qd gd rx ry q k =>
  h Z H x y dx dy Q Qd gd rx ry q fun v H' d x1 g1 ⟨a, e, n, o⟩ q1 => k v H' d x1 g1 (by subst e; exact o.rp (fun _ z => .inl z) (gd.fresh n)) q1
theorem rd_add : OpD b (RE b) (fun x y H Q => rI0 (fun i j => .int (i + j)) x y H Q ∨ (fun x y H Q => (∃ i j, x = .str i ∧ y = .str j ∧ i.length + j.length ≤ sizeLine ∧ Q (.str (i ++ j)) H) ∨ (fun x y H Q => rCat x y H Q ∨ rCatF X.K x y H Q) x y H Q) x y H Q) gAdd := by
  intro Z H x y dx dy Q Qd gd rx ry h k
  match dx, dy, h, rx, ry with
  | .py (.int i), .py (.int j), h, rx, ry =>
    rw [rx.int, ry.int]
    exact .inl ⟨i, j, rfl, rfl, k _ H (.py (.int (i + j))) Ex.refl gd.g (.int _) h⟩
  | .py (.str i), .py (.str j), ⟨hl, h⟩, rx, ry =>
    rw [rx.str, ry.str]
    exact .inr (.inl ⟨i, j, rfl, rfl, hl, k _ H (.py (.str (i ++ j))) Ex.refl gd.g (.str _) h⟩)
  | .py (.list xs), .py (.list ys), h, rx, ry =>
    exact .inr (.inr (.inl (OpD.toE rn_catL Z H x y (.py (.list xs)) (.py (.list ys)) Q Qd gd rx ry h k)))
  | .py (.tuple xs), .py (.tuple ys), ⟨hl, h⟩, rx, ry =>
    obtain ⟨a, oa, us, rfl, ha, da, na, qa⟩ := rx.tuple
    obtain ⟨c, oc, ws, rfl, hc, dc, nc, qc⟩ := ry.tuple
    refine .inr (.inr (.inr ⟨a, c, us, ws, rfl, rfl, SqT.th ha, SqT.th hc, by rw [qa.length, qc.length]; exact hl, fun e => ?_, fun _ e => ?_, fun _ _ p o hp ho => ?_⟩))
    · subst e
      cases qa
      exact k _ H (.py (.tuple ys)) Ex.refl gd.g (.tup hc dc nc qc) h
    · subst e
      cases qc
      rw [List.append_nil] at h
      exact k _ H (.py (.tuple xs)) Ex.refl gd.g (.tup ha da na qa) h
    · exact k _ _ (.py (.tuple (xs ++ ys))) (Ex.new hp) (gd.new hp) (.tup upd_same ho (gd.fresh hp) ((qa.append qc).up hp)) h
theorem ve_add (h1 : VX X b W e1 t1) (h2 : VX X b W e2 t2) : VE X b W (.BinOp e1 .Add e2 pos) (vBin gAdd t1 t2) := ve_op (OpR.or op_add (OpR.or op_add_str (OpR.or op_cat op_catF))) rd_add h1 h2
theorem vn_add (h1 : VX X b W e1 t1) (h2 : VX X b W e2 t2) : VN X b W (.BinOp e1 .Add e2 pos) (vBin gCat t1 t2) := vn_op op_cat rn_catL h1 h2

/-- ints in, under C; a plain value out -/
@[simp] def gI (C : Int → Int → Prop) (f : Int → Int → PyData) : D → D → (D → Prop) → Prop
  | .py (.int i), .py (.int j), Q => C i j ∧ Q (.py (f i j))
  | _, _, _ => False
theorem rd_I {C : Int → Int → Prop} {f : Int → Int → V} {f' : Int → Int → PyData} (hf : ∀ (Z : Addr → Prop) (H : Hp) i j, Rq Z H (f i j) (f' i j)) : OpD b (RE b) (rI C f) (gI C f') := by
  intro Z H x y dx dy Q Qd gd rx ry h k
  match dx, dy, h, rx, ry with
  | .py (.int i), .py (.int j), ⟨hc, h⟩, rx, ry =>
    rw [rx.int, ry.int]
    exact ⟨i, j, rfl, rfl, hc, k _ H (.py (f' i j)) Ex.refl gd.g (hf Z H i j) h⟩
/-- .. without a condition -/
@[simp] def gI0 (f : Int → Int → PyData) : D → D → (D → Prop) → Prop
  | .py (.int i), .py (.int j), Q => Q (.py (f i j))
  | _, _, _ => False
theorem rd_I0 {f : Int → Int → V} {f' : Int → Int → PyData} (hf : ∀ (Z : Addr → Prop) (H : Hp) i j, Rq Z H (f i j) (f' i j)) : OpD b (RE b) (rI0 f) (gI0 f') := by
  intro Z H x y dx dy Q Qd gd rx ry h k
  match dx, dy, h, rx, ry with
  | .py (.int i), .py (.int j), h, rx, ry =>
    rw [rx.int, ry.int]
    exact ⟨i, j, rfl, rfl, k _ H (.py (f' i j)) Ex.refl gd.g (hf Z H i j) h⟩
abbrev gSub := gI0 fun i j => .int (i - j)
abbrev gFdiv := gI CDivN fun i j => .int (i.fdiv j)
abbrev gMod := gI (fun _ j => 0 < j) fun i j => .int (i % j)
abbrev gPow := gI CPow fun i j => .int (i ^ j.toNat)
abbrev gLt := gI0 fun i j => .bool (decide (i < j))
abbrev gLe := gI0 fun i j => .bool (decide (i ≤ j))
abbrev gGt := gI0 fun i j => .bool (decide (j < i))
abbrev gGe := gI0 fun i j => .bool (decide (j ≤ i))
theorem ve_sub (h1 : VX X b W e1 t1) (h2 : VX X b W e2 t2) : VE X b W (.BinOp e1 .Sub e2 pos) (vBin gSub t1 t2) := ve_op op_sub (rd_I0 fun _ _ _ _ => .int _) h1 h2
theorem ve_fdiv (h1 : VX X b W e1 t1) (h2 : VX X b W e2 t2) : VE X b W (.BinOp e1 .FloorDiv e2 pos) (vBin gFdiv t1 t2) := ve_op op_fdivN (rd_I fun _ _ _ _ => .int _) h1 h2
theorem ve_mod (h1 : VX X b W e1 t1) (h2 : VX X b W e2 t2) : VE X b W (.BinOp e1 .Mod e2 pos) (vBin gMod t1 t2) := ve_op op_mod (rd_I fun _ _ _ _ => .int _) h1 h2
theorem ve_pow (h1 : VX X b W e1 t1) (h2 : VX X b W e2 t2) : VE X b W (.BinOp e1 .Pow e2 pos) (vBin gPow t1 t2) := ve_op op_pow (rd_I fun _ _ _ _ => .int _) h1 h2
theorem ve_lt (h1 : VX X b W e1 t1) (h2 : VX X b W e2 t2) : VE X b W (.Compare e1 [.Lt] [e2] pos) (vBin gLt t1 t2) := ve_cmp op_lt (rd_I0 fun _ _ _ _ => .bl _) h1 h2 (nobehind _ (by decide) (by decide))
theorem ve_le (h1 : VX X b W e1 t1) (h2 : VX X b W e2 t2) : VE X b W (.Compare e1 [.LtE] [e2] pos) (vBin gLe t1 t2) := ve_cmp op_le (rd_I0 fun _ _ _ _ => .bl _) h1 h2 (nobehind _ (by decide) (by decide))
theorem ve_gt (h1 : VX X b W e1 t1) (h2 : VX X b W e2 t2) : VE X b W (.Compare e1 [.Gt] [e2] pos) (vBin gGt t1 t2) := ve_cmp op_gt (rd_I0 fun _ _ _ _ => .bl _) h1 h2 (nobehind _ (by decide) (by decide))
theorem ve_ge (h1 : VX X b W e1 t1) (h2 : VX X b W e2 t2) : VE X b W (.Compare e1 [.GtE] [e2] pos) (vBin gGe t1 t2) := ve_cmp op_ge (rd_I0 fun _ _ _ _ => .bl _) h1 h2 (nobehind _ (by decide) (by decide))
theorem vt_lt (h1 : VX X b W e1 t1) (h2 : VX X b W e2 t2) : VTe X b W (.Compare e1 [.Lt] [e2] pos) (vTst (vBin gLt t1 t2)) := vt_cmp op_lt (rd_I0 fun _ _ _ _ => .bl _) h1 h2 (nobehind _ (by decide) (by decide))
theorem vt_le (h1 : VX X b W e1 t1) (h2 : VX X b W e2 t2) : VTe X b W (.Compare e1 [.LtE] [e2] pos) (vTst (vBin gLe t1 t2)) := vt_cmp op_le (rd_I0 fun _ _ _ _ => .bl _) h1 h2 (nobehind _ (by decide) (by decide))
theorem vt_gt (h1 : VX X b W e1 t1) (h2 : VX X b W e2 t2) : VTe X b W (.Compare e1 [.Gt] [e2] pos) (vTst (vBin gGt t1 t2)) := vt_cmp op_gt (rd_I0 fun _ _ _ _ => .bl _) h1 h2 (nobehind _ (by decide) (by decide))
theorem vt_ge (h1 : VX X b W e1 t1) (h2 : VX X b W e2 t2) : VTe X b W (.Compare e1 [.GtE] [e2] pos) (vTst (vBin gGe t1 t2)) := vt_cmp op_ge (rd_I0 fun _ _ _ _ => .bl _) h1 h2 (nobehind _ (by decide) (by decide))
end
end VL
set_option Elab.async false
set_option linter.all false
set_option maxRecDepth 100000
set_option maxHeartbeats 4000000
namespace VL
open PySem PySem.Spec PyProof.Rows L2

abbrev nz : Addr → Prop := fun _ => False

section
variable {X : Cx} {pins : List (Addr × Obj)} {σ : L2.St} {H : Hp} {s : Shared} {Z : Addr → Prop}
theorem keys_read {h : Heap} {P : Program} {w : World} : ∀ {es : List DictEntry} {kvs : List (Key × V)} {vs : List (Key × Value)}, KV kvs vs → Pairs (mixKind P w) es vs →
    ReadsAll h (es.map (·.key)) (kvs.map fun p => kD p.1) [] ∧ Vals (kvs.map (·.2)) (es.map (·.val))
  | _, _, _, .nil, .nil => ⟨.nil, .nil⟩
  | _, _, _, .cons (a := p) (b := q) r t, .cons (e := e) hk hv hp => by
    obtain ⟨i1, i2⟩ := keys_read (h := h) t hp
    obtain ⟨p1, p2⟩ := p
    obtain ⟨q1, q2⟩ := q
    obtain ⟨e1, e2⟩ := r
    have e1' : p1 = q1 := e1
    subst e1'
    refine ⟨?_, .cons (show L2.RelV p2 e.val by rw [hv]; exact e2) i2⟩
    have hk' : keyIs p1 e.key = true := hk
    rcases keyIs_shape hk' with ⟨i, u, a1, a2⟩ | ⟨x, u, a1, a2⟩
    · subst a1
      rw [List.map_cons, List.map_cons, a2]
      exact ReadsAll.cons (as := []) (Reads.int i u) i1
    · subst a1
      rw [List.map_cons, List.map_cons, a2]
      exact ReadsAll.cons (as := []) (Reads.str x u) i1
mutual
theorem Rq.reads (I : Inv X pins σ H s) : ∀ {v : V} {d : PyData}, Rq Z H v d → ∀ u, RelV v u → ∃ as, Reads s.heap u d as ∧ ∀ a ∈ as, H a ≠ none
  | _, _, .non, _, r => by cases r; exact ⟨_, Reads.none, fun _ h => nomatch h⟩
  | _, _, .bl k, _, r => by cases r; exact ⟨_, Reads.bool k, fun _ h => nomatch h⟩
  | _, _, .int i, _, r => by obtain ⟨t, rfl⟩ := r; exact ⟨_, Reads.int i t, fun _ h => nomatch h⟩
  | _, _, .str x, _, r => by obtain ⟨t, rfl⟩ := r; exact ⟨_, Reads.str x t, fun _ h => nomatch h⟩
  | _, _, .lst (a := a) e n q, _, r => by
    cases r
    obtain ⟨its, rv, ⟨o, m, ho, hc, _, hd⟩, _⟩ := I.list (SqL.of e)
    obtain ⟨as, h1, h2⟩ := Rqs.reads I q _ rv
    refine ⟨_, Reads.list ho hc hd h1, fun b hb => ?_⟩
    rcases List.mem_cons.mp hb with rfl | hb
    · rw [e]; simp
    · exact h2 b hb
  | _, _, .tup (a := a) e _ n q, _, r => by
    cases r
    obtain ⟨its, rv, ⟨o, ho, hc, m, hd⟩, _⟩ := I.tuple (SqT.th e)
    obtain ⟨as, h1, h2⟩ := Rqs.reads I q _ rv
    exact ⟨_, Reads.tuple ho hc hd h1, h2⟩
  | _, _, .dct (a := a) (kvs := kvs) (ds := ds) e n q, _, r => by
    cases r
    obtain ⟨_, _, vs, kv, o, es, ep, ho, he, hd, _, hp, _⟩ := dk_of I.hok e
    obtain ⟨k1, k2⟩ := keys_read (h := s.heap) kv hp
    obtain ⟨bs, h1, h2, h3⟩ := Rqk.reads I q _ k2
    rw [h3] at k1
    refine ⟨_, Reads.dict ho he.1 hd k1 h1, fun b hb => ?_⟩
    rcases List.mem_append.mp hb with hb | hb
    · rw [List.mem_singleton.mp hb, e]; simp
    · exact h2 b hb
theorem Rqs.reads (I : Inv X pins σ H s) : ∀ {v : List V} {d : List PyData}, Rqs Z H v d → ∀ u, Vals v u → ∃ as, ReadsAll s.heap u d as ∧ ∀ a ∈ as, H a ≠ none
  | _, _, .nil, _, r => by cases r; exact ⟨_, ReadsAll.nil, fun _ h => nomatch h⟩
  | _, _, .cons q t, _, r => by
    cases r with
    | cons r rr =>
      obtain ⟨as, h1, h2⟩ := Rq.reads I q _ r
      obtain ⟨bs, h3, h4⟩ := Rqs.reads I t _ rr
      exact ⟨_, ReadsAll.cons h1 h3, fun a ha => (List.mem_append.mp ha).elim (h2 a) (h4 a)⟩
theorem Rqk.reads (I : Inv X pins σ H s) : ∀ {v : List (Key × V)} {d : List (PyData × PyData)}, Rqk Z H v d → ∀ u, Vals (v.map (·.2)) u → ∃ as, ReadsAll s.heap u (d.map (·.2)) as ∧ (∀ a ∈ as, H a ≠ none) ∧ v.map (fun p => kD p.1) = d.map (·.1)
  | _, _, .nil, _, r => by cases r; exact ⟨_, ReadsAll.nil, fun _ h => (nomatch h), rfl⟩
  | _, _, .cons q t, _, r => by
    cases r with
    | cons r rr =>
      obtain ⟨as, h1, h2⟩ := Rq.reads I q _ r
      obtain ⟨bs, h3, h4, h5⟩ := Rqk.reads I t _ rr
      exact ⟨_, ReadsAll.cons h1 h3, fun a ha => (List.mem_append.mp ha).elim (h2 a) (h4 a), by rw [List.map_cons, List.map_cons, h5]⟩
end
end

/-- a borrowed plain value, as data -/
theorem Rb.q {b : Bg} {Z : Addr → Prop} {H : Hp} {v : V} {p : PyData} (r : Rb b Z H v (.py p)) : Rq nz H v p := by
  rcases r with r | ⟨a, e, _, _, q⟩
  · exact Rq.mono (fun _ z => z.elim) (fun _ _ e _ => e) r
  · subst e
    exact Ow.rp (b := b) (d := .py p) (Z' := nz) (fun _ z => z.elim) (fun z => z) q

/-! ### ==, in -/
section
variable {X : Cx}
def rEqP : R2 := fun x y H Q => ∃ p q, Rq nz H x p ∧ Rq nz H y q ∧ p.plain = true ∧ q.plain = true ∧ (p.depth ≤ 60 ∨ q.depth ≤ 60) ∧ Q (.bl (p.eqv q)) H
def rNeP : R2 := fun x y H Q => ∃ p q, Rq nz H x p ∧ Rq nz H y q ∧ p.plain = true ∧ q.plain = true ∧ (p.depth ≤ 60 ∨ q.depth ≤ 60) ∧ Q (.bl (!p.eqv q)) H
theorem op_eqP (hu : X.A.units + 64 < cLine) : OpR X (compareOp .Eq) rEqP := by
  intro pins s σ H x y v u Q I rx ry ⟨p, q, hp, hq, p1, q1, hd, h⟩
  obtain ⟨as, r1, _⟩ := hp.reads I _ rx
  obtain ⟨bs, r2, _⟩ := hq.reads I _ ry
  exact SeqAt.eq_plain r1 r2 p1 q1 (by omega) ⟨.bl _, H, I, rfl, h⟩
theorem op_neP (hu : X.A.units + 64 < cLine) : OpR X (compareOp .NotEq) rNeP := by
  intro pins s σ H x y v u Q I rx ry ⟨p, q, hp, hq, p1, q1, hd, h⟩
  obtain ⟨as, r1, _⟩ := hp.reads I _ rx
  obtain ⟨bs, r2, _⟩ := hq.reads I _ ry
  exact SeqAt.ne_plain r1 r2 p1 q1 (by omega) ⟨.bl _, H, I, rfl, h⟩
def rInP (neg : Bool) : R2 := fun x y H Q => ∃ p qs, Rq nz H x p ∧ (Rq nz H y (.list qs) ∨ Rq nz H y (.tuple qs)) ∧ p.plain = true ∧ PyData.plainAll qs = true ∧ (p.depth ≤ 60 ∨ PyData.depthAll qs ≤ 60) ∧ Q (.bl (neg ^^ qs.any fun y => PyData.eqv y p)) H
theorem op_inP (hu : X.A.units + 64 < cLine) : OpR X (compareOp .In) (rInP false) := by
  intro pins s σ H x y v u Q I rx ry ⟨p, q, hp, hq, p1, q1, hd, h⟩
  obtain ⟨as, r1, _⟩ := hp.reads I _ rx
  rw [Bool.false_xor] at h
  rcases hq with hq | hq
  · obtain ⟨bs, r2, _⟩ := hq.reads I _ ry
    exact SeqAt.in_list_data r2 r1 q1 p1 (by omega) ⟨.bl _, H, I, rfl, h⟩
  · obtain ⟨bs, r2, _⟩ := hq.reads I _ ry
    exact SeqAt.in_tuple_data r2 r1 q1 p1 (by omega) ⟨.bl _, H, I, rfl, h⟩
theorem op_notInP (hu : X.A.units + 64 < cLine) : OpR X (compareOp .NotIn) (rInP true) := by
  intro pins s σ H x y v u Q I rx ry ⟨p, q, hp, hq, p1, q1, hd, h⟩
  obtain ⟨as, r1, _⟩ := hp.reads I _ rx
  rw [Bool.true_xor] at h
  rcases hq with hq | hq
  · obtain ⟨bs, r2, _⟩ := hq.reads I _ ry
    exact SeqAt.notIn_list_data r2 r1 q1 p1 (by omega) ⟨.bl _, H, I, rfl, h⟩
  · obtain ⟨bs, r2, _⟩ := hq.reads I _ ry
    exact SeqAt.notIn_tuple_data r2 r1 q1 p1 (by omega) ⟨.bl _, H, I, rfl, h⟩
end

/-- p == q, whatever plain data they are -/
@[simp] def gEq : D → D → (D → Prop) → Prop
  | .py (.tuple xs), .py (.tuple []), Q => Q (.py (.bool xs.isEmpty))
  | .py (.list xs), .py (.list []), Q => Q (.py (.bool xs.isEmpty))
  | .py p, .py q, Q => p.plain = true ∧ q.plain = true ∧ (p.depth ≤ 60 ∨ q.depth ≤ 60) ∧ Q (.py (.bool (p.eqv q)))
  | _, _, _ => False
@[simp] def gNe : D → D → (D → Prop) → Prop
  | .py (.tuple xs), .py (.tuple []), Q => Q (.py (.bool (!xs.isEmpty)))
  | .py (.list xs), .py (.list []), Q => Q (.py (.bool (!xs.isEmpty)))
  | .py p, .py q, Q => p.plain = true ∧ q.plain = true ∧ (p.depth ≤ 60 ∨ q.depth ≤ 60) ∧ Q (.py (.bool (!p.eqv q)))
  | _, _, _ => False
/-- x in c, c a list, a tuple, a text -/
@[simp] def gIn (neg : Bool) : D → D → (D → Prop) → Prop
  | .py (.str x), .py (.str y), Q => Q (.py (.bool (neg ^^ Txt.contains y x)))
  | .py p, .py (.list q), Q => p.plain = true ∧ PyData.plainAll q = true ∧ (p.depth ≤ 60 ∨ PyData.depthAll q ≤ 60) ∧ Q (.py (.bool (neg ^^ q.any fun y => PyData.eqv y p)))
  | .py p, .py (.tuple q), Q => p.plain = true ∧ PyData.plainAll q = true ∧ (p.depth ≤ 60 ∨ PyData.depthAll q ≤ 60) ∧ Q (.py (.bool (neg ^^ q.any fun y => PyData.eqv y p)))
  | _, _, _ => False

section
variable {X : Cx} {b : Bg} {W : WX} {e e1 e2 e3 : Expr} {es : List Expr} {t t1 t2 t3 : VT} {pos : Pos} {r : R2} {g : D → D → (D → Prop) → Prop}
/-- beside an empty one: no item is looked at -/
def rZ (K : PySem.W.Frag) (f : Bool → Bool) : R2 := fun x y H Q => ∃ a c xs, x = .ref a ∧ y = .ref c ∧ ((SqL K H a xs ∧ SqL K H c []) ∨ (SqT K H a xs ∧ SqT K H c [])) ∧ Q (.bl (f xs.isEmpty)) H
theorem op_eqZ (hu : X.A.units + 64 < cLine) : OpR X (compareOp .Eq) (rZ X.K id) := by
  intro pins s σ H x y v u Q I rx ry ⟨a, c, xs, ex, ey, hh, q⟩
  subst ex ey
  obtain rfl : v = .ref a := rx
  obtain rfl : u = .ref c := ry
  rcases hh with ⟨h1, h2⟩ | ⟨h1, h2⟩
  · obtain ⟨its, r, p, _⟩ := I.list h1
    obtain ⟨its2, r2, p2, _⟩ := I.list h2
    cases r2
    cases r with
    | nil => exact SeqAt.eq_listAt (e := fun _ => true) p.isList p2.isList rfl (by omega) (fun j h => absurd h (Nat.not_lt_zero j)) ⟨.bl _, H, I, rfl, q⟩
    | cons r rs => exact SeqAt.eq_list_lengthsAt p.isList p2.isList rfl (by omega) ⟨.bl _, H, I, rfl, q⟩
  · obtain ⟨its, r, p, _⟩ := I.tuple h1
    obtain ⟨its2, r2, p2, _⟩ := I.tuple h2
    cases r2
    refine SeqAt.eq_tupleAt (e := fun _ => true) p p2 (by omega) (fun j h1 h2 => absurd h2 (Nat.not_lt_zero j)) ⟨.bl _, H, I, ?_, q⟩
    cases r <;> simp [L2.RelV]
theorem op_neZ (hu : X.A.units + 64 < cLine) : OpR X (compareOp .NotEq) (rZ X.K not) := by
  intro pins s σ H x y v u Q I rx ry ⟨a, c, xs, ex, ey, hh, q⟩
  subst ex ey
  obtain rfl : v = .ref a := rx
  obtain rfl : u = .ref c := ry
  rcases hh with ⟨h1, h2⟩ | ⟨h1, h2⟩
  · obtain ⟨its, r, p, _⟩ := I.list h1
    obtain ⟨its2, r2, p2, _⟩ := I.list h2
    cases r2
    cases r with
    | nil => exact SeqAt.RcNeAt.lists (e := fun _ => true) p.isList p2.isList rfl (by omega) (fun j h => absurd h (Nat.not_lt_zero j)) _ _ _ _ ⟨.bl _, H, I, rfl, q⟩
    | cons r rs => exact SeqAt.RcNeAt.lists_lengths p.isList p2.isList rfl (by omega) _ _ _ _ ⟨.bl _, H, I, rfl, q⟩
  · obtain ⟨its, r, p, _⟩ := I.tuple h1
    obtain ⟨its2, r2, p2, _⟩ := I.tuple h2
    cases r2
    refine SeqAt.RcNeAt.tuples (e := fun _ => true) p p2 (by omega) (fun j h1 h2 => absurd h2 (Nat.not_lt_zero j)) _ _ _ _ ⟨.bl _, H, I, ?_, q⟩
    cases r <;> simp [L2.RelV]
theorem rz_of {f : Bool → Bool} {K : PySem.W.Frag} {Z : Addr → Prop} {H : Hp} {x y : V} {Q : VK} {Qd : D → Prop} {xs : List PyData} (gd : Gd b Z H) (h : Qd (.py (.bool (f xs.isEmpty)))) (k : ∀ v H' d, Ex b H H' → b.G H' → RE b Z H H' v d → Qd d → Q v H') :
    (Rb b Z H x (.py (.list xs)) → Rb b Z H y (.py (.list [])) → rZ K f x y H Q) ∧ (Rb b Z H x (.py (.tuple xs)) → Rb b Z H y (.py (.tuple [])) → rZ K f x y H Q) := by
  have ee : ∀ {us : List V}, Rqs Z H us xs → xs.isEmpty = us.isEmpty := fun q => by cases q <;> rfl
  refine ⟨fun rx ry => ?_, fun rx ry => ?_⟩
  · obtain ⟨a, us, rfl, ha, qa⟩ := rx.list
    obtain ⟨c, ws, rfl, hc, qc⟩ := ry.list
    cases qc
    exact ⟨a, c, us, rfl, rfl, .inl ⟨SqL.of ha, SqL.of hc⟩, k _ H (.py (.bool _)) Ex.refl gd.g (by rw [← ee qa]; exact .bl _) h⟩
  · obtain ⟨a, oa, us, rfl, ha, _, _, qa⟩ := rx.tuple
    obtain ⟨c, oc, ws, rfl, hc, _, _, qc⟩ := ry.tuple
    cases qc
    exact ⟨a, c, us, rfl, rfl, .inr ⟨SqT.th ha, SqT.th hc⟩, k _ H (.py (.bool _)) Ex.refl gd.g (by rw [← ee qa]; exact .bl _) h⟩
theorem rd_eq : OpD b (RE b) (fun x y H Q => rEqP x y H Q ∨ rZ X.K id x y H Q) gEq := by
  intro Z H x y dx dy Q Qd gd rx ry h k
  unfold gEq at h
  split at h
  · exact .inr ((rz_of (f := id) gd h k).2 rx ry)
  · exact .inr ((rz_of (f := id) gd h k).1 rx ry)
  · obtain ⟨h1, h2, h3, h⟩ := h
    exact .inl ⟨_, _, rx.q, ry.q, h1, h2, h3, k _ H (.py (.bool _)) Ex.refl gd.g (.bl _) h⟩
  · exact h.elim
theorem rd_ne : OpD b (RE b) (fun x y H Q => rNeP x y H Q ∨ rZ X.K not x y H Q) gNe := by
  intro Z H x y dx dy Q Qd gd rx ry h k
  unfold gNe at h
  split at h
  · exact .inr ((rz_of (f := not) gd h k).2 rx ry)
  · exact .inr ((rz_of (f := not) gd h k).1 rx ry)
  · obtain ⟨h1, h2, h3, h⟩ := h
    exact .inl ⟨_, _, rx.q, ry.q, h1, h2, h3, k _ H (.py (.bool _)) Ex.refl gd.g (.bl _) h⟩
  · exact h.elim
theorem ve_eq (hu : X.A.units + 64 < cLine) (h1 : VX X b W e1 t1) (h2 : VX X b W e2 t2) : VE X b W (.Compare e1 [.Eq] [e2] pos) (vBin gEq t1 t2) := ve_cmp (OpR.or (op_eqP hu) (op_eqZ hu)) rd_eq h1 h2 (nobehind _ (by decide) (by decide))
theorem ve_ne (hu : X.A.units + 64 < cLine) (h1 : VX X b W e1 t1) (h2 : VX X b W e2 t2) : VE X b W (.Compare e1 [.NotEq] [e2] pos) (vBin gNe t1 t2) := ve_cmp (OpR.or (op_neP hu) (op_neZ hu)) rd_ne h1 h2 (nobehind _ (by decide) (by decide))
theorem vt_eq (hu : X.A.units + 64 < cLine) (h1 : VX X b W e1 t1) (h2 : VX X b W e2 t2) : VTe X b W (.Compare e1 [.Eq] [e2] pos) (vTst (vBin gEq t1 t2)) := vt_cmp (OpR.or (op_eqP hu) (op_eqZ hu)) rd_eq h1 h2 (nobehind _ (by decide) (by decide))
theorem vt_ne (hu : X.A.units + 64 < cLine) (h1 : VX X b W e1 t1) (h2 : VX X b W e2 t2) : VTe X b W (.Compare e1 [.NotEq] [e2] pos) (vTst (vBin gNe t1 t2)) := vt_cmp (OpR.or (op_neP hu) (op_neZ hu)) rd_ne h1 h2 (nobehind _ (by decide) (by decide))

def rInS2 : R2 := fun x y H Q => ∃ i j, x = .str i ∧ y = .str j ∧ Q (.bl (Txt.contains j i)) H
def rNotInS2 : R2 := fun x y H Q => ∃ i j, x = .str i ∧ y = .str j ∧ Q (.bl (!Txt.contains j i)) H
theorem op_inS2 : OpR X (compareOp .In) rInS2 := fun pins s σ H x y v u Q I rx ry ⟨i, j, e1, e2, q⟩ => op_in_str pins s σ H x y v u Q I rx ry ⟨i, j, e1, e2, q⟩
theorem op_notInS2 : OpR X (compareOp .NotIn) rNotInS2 := fun pins s σ H x y v u Q I rx ry ⟨i, j, e1, e2, q⟩ => op_notIn_str pins s σ H x y v u Q I rx ry ⟨i, j, e1, e2, by
  have e : (Builtin.Str.occurrences j i 0 j.length 1).isEmpty = !Txt.contains j i := by unfold Txt.contains; rw [Bool.not_not]
  first | exact q | (rw [e]; exact q)⟩
theorem rd_in {neg : Bool} (r0 : R2) (h0 : ∀ (H : Hp) (i j : Str) (Q : VK), Q (.bl (neg ^^ Txt.contains j i)) H → r0 (.str i) (.str j) H Q) : OpD b (RE b) (fun x y H Q => r0 x y H Q ∨ rInP neg x y H Q) (gIn neg) := by
  intro Z H x y dx dy Q Qd gd rx ry h k
  have lst : ∀ {p : PyData} {q : List PyData}, Rb b Z H x (.py p) → Rb b Z H y (.py (.list q)) → (p.plain = true ∧ PyData.plainAll q = true ∧ (p.depth ≤ 60 ∨ PyData.depthAll q ≤ 60) ∧ Qd (.py (.bool (neg ^^ q.any fun y => PyData.eqv y p)))) → rInP neg x y H Q :=
    fun {p q} rx ry ⟨h1, h2, h3, h⟩ => ⟨p, q, rx.q, .inl ry.q, h1, h2, h3, k _ H (.py (.bool _)) Ex.refl gd.g (.bl _) h⟩
  have tup : ∀ {p : PyData} {q : List PyData}, Rb b Z H x (.py p) → Rb b Z H y (.py (.tuple q)) → (p.plain = true ∧ PyData.plainAll q = true ∧ (p.depth ≤ 60 ∨ PyData.depthAll q ≤ 60) ∧ Qd (.py (.bool (neg ^^ q.any fun y => PyData.eqv y p)))) → rInP neg x y H Q :=
    fun {p q} rx ry ⟨h1, h2, h3, h⟩ => ⟨p, q, rx.q, .inr ry.q, h1, h2, h3, k _ H (.py (.bool _)) Ex.refl gd.g (.bl _) h⟩
  match dx, dy, h, rx, ry with
  | .py (.str i), .py (.str j), h, rx, ry =>
    rw [rx.str, ry.str]
    exact .inl (h0 H i j Q (k _ H (.py (.bool _)) Ex.refl gd.g (.bl _) h))
  | .py .none, .py (.list q), h, rx, ry => exact .inr (lst rx ry h)
  | .py (.bool _), .py (.list q), h, rx, ry => exact .inr (lst rx ry h)
  | .py (.int _), .py (.list q), h, rx, ry => exact .inr (lst rx ry h)
  | .py (.str _), .py (.list q), h, rx, ry => exact .inr (lst rx ry h)
  | .py (.list _), .py (.list q), h, rx, ry => exact .inr (lst rx ry h)
  | .py (.tuple _), .py (.list q), h, rx, ry => exact .inr (lst rx ry h)
  | .py .none, .py (.tuple q), h, rx, ry => exact .inr (tup rx ry h)
  | .py (.bool _), .py (.tuple q), h, rx, ry => exact .inr (tup rx ry h)
  | .py (.int _), .py (.tuple q), h, rx, ry => exact .inr (tup rx ry h)
  | .py (.str _), .py (.tuple q), h, rx, ry => exact .inr (tup rx ry h)
  | .py (.list _), .py (.tuple q), h, rx, ry => exact .inr (tup rx ry h)
  | .py (.tuple _), .py (.tuple q), h, rx, ry => exact .inr (tup rx ry h)
  | .py (.dict _), .py (.list q), h, rx, ry => exact .inr (lst rx ry h)
  | .py (.dict _), .py (.tuple q), h, rx, ry => exact .inr (tup rx ry h)
theorem ve_in (hu : X.A.units + 64 < cLine) (h1 : VX X b W e1 t1) (h2 : VX X b W e2 t2) (hm : behindInMarks .In e2 = false := by rfl) : VE X b W (.Compare e1 [.In] [e2] pos) (vBin (gIn false) t1 t2) :=
  ve_cmp (OpR.or op_inS2 (op_inP hu)) (rd_in rInS2 fun H i j Q q => ⟨i, j, rfl, rfl, by rw [Bool.false_xor] at q; exact q⟩) h1 h2 hm
theorem ve_notIn (hu : X.A.units + 64 < cLine) (h1 : VX X b W e1 t1) (h2 : VX X b W e2 t2) (hm : behindInMarks .NotIn e2 = false := by rfl) : VE X b W (.Compare e1 [.NotIn] [e2] pos) (vBin (gIn true) t1 t2) :=
  ve_cmp (OpR.or op_notInS2 (op_notInP hu)) (rd_in rNotInS2 fun H i j Q q => ⟨i, j, rfl, rfl, by rw [Bool.true_xor] at q; exact q⟩) h1 h2 hm
theorem vt_in (hu : X.A.units + 64 < cLine) (h1 : VX X b W e1 t1) (h2 : VX X b W e2 t2) (hm : behindInMarks .In e2 = false := by rfl) : VTe X b W (.Compare e1 [.In] [e2] pos) (vTst (vBin (gIn false) t1 t2)) :=
  vt_cmp (OpR.or op_inS2 (op_inP hu)) (rd_in rInS2 fun H i j Q q => ⟨i, j, rfl, rfl, by rw [Bool.false_xor] at q; exact q⟩) h1 h2 hm
theorem vt_notIn (hu : X.A.units + 64 < cLine) (h1 : VX X b W e1 t1) (h2 : VX X b W e2 t2) (hm : behindInMarks .NotIn e2 = false := by rfl) : VTe X b W (.Compare e1 [.NotIn] [e2] pos) (vTst (vBin (gIn true) t1 t2)) :=
  vt_cmp (OpR.or op_notInS2 (op_notInP hu)) (rd_in rNotInS2 fun H i j Q q => ⟨i, j, rfl, rfl, by rw [Bool.true_xor] at q; exact q⟩) h1 h2 hm

/-! ### is None -/
@[simp] def isNn : PyData → Bool
  | .none => true
  | _ => false
@[simp] def gIsN (neg : Bool) : D → D → (D → Prop) → Prop
  | .py p, .py .none, Q => Q (.py (.bool (neg ^^ isNn p)))
  | .raw v, .py .none, Q => Q (.py (.bool (neg ^^ decide (v = V.non))))
  | .obj _ _, .py .none, Q => Q (.py (.bool neg))
  | _, _, _ => False
theorem Rq.isN {Z : Addr → Prop} {H : Hp} {v : V} {p : PyData} (r : Rq Z H v p) : decide (v = V.non) = isNn p := by
  cases r <;> rfl
theorem rd_isN {neg : Bool} {f : Bool → Bool} (hf : ∀ k, f k = (neg ^^ k)) : OpD b (RE b) (fun x y H Q => y = .non ∧ Q (.bl (f (decide (x = .non)))) H) (gIsN neg) := by
  intro Z H x y dx dy Q Qd gd rx ry h k
  match dx, dy, h, rx, ry with
  | .py p, .py .none, h, rx, ry =>
    refine ⟨ry.none, ?_⟩
    rw [rx.q.isN, hf]
    exact k _ H (.py (.bool _)) Ex.refl gd.g (.bl _) h
  | .raw v, .py .none, h, rx, ry =>
    refine ⟨ry.none, ?_⟩
    have e : x = v := by
      rcases rx with r | ⟨a, e, _, _, q⟩
      · exact r
      · exact q.elim
    rw [hf, e]
    exact k _ H (.py (.bool _)) Ex.refl gd.g (.bl _) h
  | .obj _ _, .py .none, h, rx, ry =>
    refine ⟨ry.none, ?_⟩
    obtain ⟨a, dx, xs, e, _⟩ := rx.obj
    subst e
    rw [hf, decide_eq_false (by intro h; cases h), Bool.xor_false]
    exact k _ H (.py (.bool _)) Ex.refl gd.g (.bl _) h
theorem ve_isN (h1 : VX X b W e1 t1) (h2 : VX X b W e2 t2) : VE X b W (.Compare e1 [.Is] [e2] pos) (vBin (gIsN false) t1 t2) := ve_cmp op_isN (rd_isN (f := id) fun k => by rw [Bool.false_xor]; rfl) h1 h2 (nobehind _ (by decide) (by decide))
theorem ve_notN (h1 : VX X b W e1 t1) (h2 : VX X b W e2 t2) : VE X b W (.Compare e1 [.IsNot] [e2] pos) (vBin (gIsN true) t1 t2) := ve_cmp op_notN (rd_isN (f := not) fun k => by rw [Bool.true_xor]) h1 h2 (nobehind _ (by decide) (by decide))
theorem vt_isN (h1 : VX X b W e1 t1) (h2 : VX X b W e2 t2) : VTe X b W (.Compare e1 [.Is] [e2] pos) (vTst (vBin (gIsN false) t1 t2)) := vt_cmp op_isN (rd_isN (f := id) fun k => by rw [Bool.false_xor]; rfl) h1 h2 (nobehind _ (by decide) (by decide))
theorem vt_notN (h1 : VX X b W e1 t1) (h2 : VX X b W e2 t2) : VTe X b W (.Compare e1 [.IsNot] [e2] pos) (vTst (vBin (gIsN true) t1 t2)) := vt_cmp op_notN (rd_isN (f := not) fun k => by rw [Bool.true_xor]) h1 h2 (nobehind _ (by decide) (by decide))

/-! ### chains, and, or, not, if -/
@[simp] def vChain (g g' : D → D → (D → Prop) → Prop) (ta tb tc : VT) : VT := fun ρ Q E => ta ρ (fun x => tb ρ (fun y => g x y fun z => ∃ k, z = .py (.bool k) ∧ if k = true then tc ρ (fun w => g' y w Q) E else Q (.py (.bool false))) E) E
theorem chain_core {r' : R2} {g' : D → D → (D → Prop) → Prop} (hd : OpD b (RE b) r g) (hd' : OpD b (RE b) r' g') :
    ∀ σ H Q, LE b W (RE b) (vChain g g' t1 t2 t3) σ H Q → tChain r r' (LE b W (fun Z _ H v d => Rb b Z H v d) t1) (LE b W (fun Z _ H v d => Rb b Z H v d) t2) (LE b W (fun Z _ H v d => Rb b Z H v d) t3) σ H Q :=
  fun σ H Q ⟨Zo, Z, ρ, Qd, Ed, v, q, l, m⟩ => ⟨Zo, Z, ρ, _, Ed, v, q, fun x H1 d x1 g1 r1 q1 =>
    ⟨Zo, Z, ρ, _, Ed, v.ex x1 g1, q1, fun y H2 d2 x2 g2 r2 q2 => by
      have v2 := (v.ex x1 g1).ex x2 g2
      refine hd Z H2 x y d d2 _ _ v2.gd (r1.ex ((v.ex x1 g1).keep x2) x2) r2 q2 fun u H3 d3 x3 g3 r3 ⟨k, e3, q3⟩ => ?_
      subst e3
      refine ⟨k, Rb.bool (b := b) (Z := Z) (H := H3) (.inl r3), ?_⟩
      cases k with
      | false => exact l _ H3 (.py (.bool false)) ((x1.trans x2).trans x3) g3 (Rq.bl false) q3
      | true => exact ⟨Zo, Z, ρ, _, Ed, v2.ex x3 g3, q3, fun w H4 d4 x4 g4 r4 q4 => hd' Z H4 y w d2 d4 Q Qd ((v2.ex x3 g3).ex x4 g4).gd ((r2.ex (v2.keep x3) x3).ex ((v2.ex x3 g3).keep x4) x4) r4 q4
            fun u5 H5 d5 x5 g5 r5 q5 => l u5 H5 d5 ((((x1.trans x2).trans x3).trans x4).trans x5) g5 r5 q5,
          fun c z H4 er x4 g4 r4 q4 => m c z H4 er (((x1.trans x2).trans x3).trans x4) g4 r4 q4⟩,
      fun c z H2 er x2 g2 r2 q2 => m c z H2 er (x1.trans x2) g2 r2 q2⟩, m⟩
theorem ve_chain {op op' : CmpOp} {r' : R2} {g' : D → D → (D → Prop) → Prop} (ho : OpR X (compareOp op) r) (hd : OpD b (RE b) r g) (ho' : OpR X (compareOp op') r') (hd' : OpD b (RE b) r' g')
    (h1 : VX X b W e1 t1) (h2 : VX X b W e2 t2) (h3 : VX X b W e3 t3) (hm : lastMarks [op, op'] [e2, e3] = false) : VE X b W (.Compare e1 [op, op'] [e2, e3] pos) (vChain g g' t1 t2 t3) :=
  pe_mono (pe_chain ho ho' h1 h2 h3 hm) (chain_core hd hd')
theorem vt_chain {op op' : CmpOp} {r' : R2} {g' : D → D → (D → Prop) → Prop} (ho : OpR X (compareOp op) r) (hd : OpD b (RE b) r g) (ho' : OpR X (compareOp op') r') (hd' : OpD b (RE b) r' g')
    (h1 : VX X b W e1 t1) (h2 : VX X b W e2 t2) (h3 : VX X b W e3 t3) (hm : lastMarks [op, op'] [e2, e3] = false) : VTe X b W (.Compare e1 [op, op'] [e2, e3] pos) (vTst (vChain g g' t1 t2 t3)) :=
  pt_mono (pt_chain ho ho' h1 h2 h3 hm) fun σ H Q ⟨Zo, Z, ρ, Qd, Ed, v, q, l, m⟩ => chain_core hd hd' σ H _ ⟨Zo, Z, ρ, _, Ed, v, q, fun x H1 d x1 g1 r1 ⟨k, e, q1⟩ => ⟨k, by
    subst e
    exact Rb.bool (b := b) (.inl r1), l k H1 x1 g1 q1⟩, m⟩
theorem ve_le2 (h1 : VX X b W e1 t1) (h2 : VX X b W e2 t2) (h3 : VX X b W e3 t3) : VE X b W (.Compare e1 [.LtE, .LtE] [e2, e3] pos) (vChain gLe gLe t1 t2 t3) :=
  ve_chain op_le (rd_I0 fun _ _ _ _ => .bl _) op_le (rd_I0 fun _ _ _ _ => .bl _) h1 h2 h3 (by show behindInMarks _ _ = false; exact nobehind _ (by decide) (by decide))
theorem vt_le2 (h1 : VX X b W e1 t1) (h2 : VX X b W e2 t2) (h3 : VX X b W e3 t3) : VTe X b W (.Compare e1 [.LtE, .LtE] [e2, e3] pos) (vTst (vChain gLe gLe t1 t2 t3)) :=
  vt_chain op_le (rd_I0 fun _ _ _ _ => .bl _) op_le (rd_I0 fun _ _ _ _ => .bl _) h1 h2 h3 (by show behindInMarks _ _ = false; exact nobehind _ (by decide) (by decide))
theorem ve_leLt (h1 : VX X b W e1 t1) (h2 : VX X b W e2 t2) (h3 : VX X b W e3 t3) : VE X b W (.Compare e1 [.LtE, .Lt] [e2, e3] pos) (vChain gLe gLt t1 t2 t3) :=
  ve_chain op_le (rd_I0 fun _ _ _ _ => .bl _) op_lt (rd_I0 fun _ _ _ _ => .bl _) h1 h2 h3 (by show behindInMarks _ _ = false; exact nobehind _ (by decide) (by decide))
theorem vt_leLt (h1 : VX X b W e1 t1) (h2 : VX X b W e2 t2) (h3 : VX X b W e3 t3) : VTe X b W (.Compare e1 [.LtE, .Lt] [e2, e3] pos) (vTst (vChain gLe gLt t1 t2 t3)) :=
  vt_chain op_le (rd_I0 fun _ _ _ _ => .bl _) op_lt (rd_I0 fun _ _ _ _ => .bl _) h1 h2 h3 (by show behindInMarks _ _ = false; exact nobehind _ (by decide) (by decide))
theorem ve_lt2 (h1 : VX X b W e1 t1) (h2 : VX X b W e2 t2) (h3 : VX X b W e3 t3) : VE X b W (.Compare e1 [.Lt, .Lt] [e2, e3] pos) (vChain gLt gLt t1 t2 t3) :=
  ve_chain op_lt (rd_I0 fun _ _ _ _ => .bl _) op_lt (rd_I0 fun _ _ _ _ => .bl _) h1 h2 h3 (by show behindInMarks _ _ = false; exact nobehind _ (by decide) (by decide))
theorem vt_lt2 (h1 : VX X b W e1 t1) (h2 : VX X b W e2 t2) (h3 : VX X b W e3 t3) : VTe X b W (.Compare e1 [.Lt, .Lt] [e2, e3] pos) (vTst (vChain gLt gLt t1 t2 t3)) :=
  vt_chain op_lt (rd_I0 fun _ _ _ _ => .bl _) op_lt (rd_I0 fun _ _ _ _ => .bl _) h1 h2 h3 (by show behindInMarks _ _ = false; exact nobehind _ (by decide) (by decide))
theorem ve_ltLe (h1 : VX X b W e1 t1) (h2 : VX X b W e2 t2) (h3 : VX X b W e3 t3) : VE X b W (.Compare e1 [.Lt, .LtE] [e2, e3] pos) (vChain gLt gLe t1 t2 t3) :=
  ve_chain op_lt (rd_I0 fun _ _ _ _ => .bl _) op_le (rd_I0 fun _ _ _ _ => .bl _) h1 h2 h3 (by show behindInMarks _ _ = false; exact nobehind _ (by decide) (by decide))
theorem vt_ltLe (h1 : VX X b W e1 t1) (h2 : VX X b W e2 t2) (h3 : VX X b W e3 t3) : VTe X b W (.Compare e1 [.Lt, .LtE] [e2, e3] pos) (vTst (vChain gLt gLe t1 t2 t3)) :=
  vt_chain op_lt (rd_I0 fun _ _ _ _ => .bl _) op_le (rd_I0 fun _ _ _ _ => .bl _) h1 h2 h3 (by show behindInMarks _ _ = false; exact nobehind _ (by decide) (by decide))

@[simp] def vAnd (ta tb : VT) : VT := fun ρ Q E => ta ρ (fun x => ∃ k, x = .py (.bool k) ∧ if k = true then tb ρ Q E else Q (.py (.bool false))) E
@[simp] def vOr (ta tb : VT) : VT := fun ρ Q E => ta ρ (fun x => ∃ k, x = .py (.bool k) ∧ if k = true then Q (.py (.bool true)) else tb ρ Q E) E
@[simp] def vNot (ta : VT) : VT := fun ρ Q E => ta ρ (fun x => ∃ k, x = .py (.bool k) ∧ Q (.py (.bool (!k)))) E
theorem ve_one {op} (h : VE X b W e t) : VE X b W (.BoolOp op [e] pos) t := pe_one h
theorem ve_and (h1 : VX X b W e1 t1) (h2 : VE X b W (.BoolOp .And (e2 :: es) pos) t2) : VE X b W (.BoolOp .And (e1 :: e2 :: es) pos) (vAnd t1 t2) :=
  pe_mono (pe_and h1 h2) fun σ H Q ⟨Zo, Z, ρ, Qd, Ed, v, q, l, m⟩ => ⟨Zo, Z, ρ, _, Ed, v, q, fun x H1 d x1 g1 r1 ⟨k, e, q1⟩ => by
    subst e
    refine ⟨k, r1.bool, ?_⟩
    cases k with
    | false => exact l _ H1 (.py (.bool false)) x1 g1 (Rq.bl false) q1
    | true => exact ⟨Zo, Z, ρ, _, Ed, v.ex x1 g1, q1, fun y H2 d2 x2 g2 r2 q2 => l y H2 d2 (x1.trans x2) g2 r2 q2, fun c z H2 er x2 g2 r2 q2 => m c z H2 er (x1.trans x2) g2 r2 q2⟩, m⟩
theorem ve_or (h1 : VX X b W e1 t1) (h2 : VE X b W (.BoolOp .Or (e2 :: es) pos) t2) : VE X b W (.BoolOp .Or (e1 :: e2 :: es) pos) (vOr t1 t2) :=
  pe_mono (pe_or h1 h2) fun σ H Q ⟨Zo, Z, ρ, Qd, Ed, v, q, l, m⟩ => ⟨Zo, Z, ρ, _, Ed, v, q, fun x H1 d x1 g1 r1 ⟨k, e, q1⟩ => by
    subst e
    refine ⟨k, r1.bool, ?_⟩
    cases k with
    | true => exact l _ H1 (.py (.bool true)) x1 g1 (Rq.bl true) q1
    | false => exact ⟨Zo, Z, ρ, _, Ed, v.ex x1 g1, q1, fun y H2 d2 x2 g2 r2 q2 => l y H2 d2 (x1.trans x2) g2 r2 q2, fun c z H2 er x2 g2 r2 q2 => m c z H2 er (x1.trans x2) g2 r2 q2⟩, m⟩
theorem ve_not (h1 : VX X b W e1 t1) : VE X b W (.UnaryOp .Not e1 pos) (vNot t1) :=
  pe_mono (pe_not h1) fun σ H Q ⟨Zo, Z, ρ, Qd, Ed, v, q, l, m⟩ => ⟨Zo, Z, ρ, _, Ed, v, q, fun x H1 d x1 g1 r1 ⟨k, e, q1⟩ => by
    subst e
    exact ⟨k, r1.bool, l _ H1 (.py (.bool _)) x1 g1 (Rq.bl _) q1⟩, m⟩
@[simp] def vIf (c : VB) (ta tb : VT) : VT := fun ρ Q E => c ρ (fun k => if k = true then ta ρ Q E else tb ρ Q E) E
theorem ve_if {c : Expr} {tc : VB} (hc : VTe X b W c tc) (h1 : VE X b W e1 t1) (h2 : VE X b W e2 t2) : VE X b W (.IfExp c e1 e2 pos) (vIf tc t1 t2) :=
  pe_mono (pe_ifExp hc h1 h2) fun σ H Q ⟨Zo, Z, ρ, Qd, Ed, v, q, l, m⟩ => ⟨Zo, Z, ρ, _, Ed, v, q, fun k H1 x1 g1 q1 => by
    cases k with
    | true => exact ⟨Zo, Z, ρ, _, Ed, v.ex x1 g1, q1, fun y H2 d2 x2 g2 r2 q2 => l y H2 d2 (x1.trans x2) g2 r2 q2, fun c z H2 er x2 g2 r2 q2 => m c z H2 er (x1.trans x2) g2 r2 q2⟩
    | false => exact ⟨Zo, Z, ρ, _, Ed, v.ex x1 g1, q1, fun y H2 d2 x2 g2 r2 q2 => l y H2 d2 (x1.trans x2) g2 r2 q2, fun c z H2 er x2 g2 r2 q2 => m c z H2 er (x1.trans x2) g2 r2 q2⟩, m⟩
/-- the same over borrowed values -/
theorem vx_if {c : Expr} {tc : VB} (hc : VTe X b W c tc) (h1 : VX X b W e1 t1) (h2 : VX X b W e2 t2) : VX X b W (.IfExp c e1 e2 pos) (vIf tc t1 t2) :=
  pe_mono (pe_ifExp hc h1 h2) fun σ H Q ⟨Zo, Z, ρ, Qd, Ed, v, q, l, m⟩ => ⟨Zo, Z, ρ, _, Ed, v, q, fun k H1 x1 g1 q1 => by
    cases k with
    | true => exact ⟨Zo, Z, ρ, _, Ed, v.ex x1 g1, q1, fun y H2 d2 x2 g2 r2 q2 => l y H2 d2 (x1.trans x2) g2 r2 q2, fun c z H2 er x2 g2 r2 q2 => m c z H2 er (x1.trans x2) g2 r2 q2⟩
    | false => exact ⟨Zo, Z, ρ, _, Ed, v.ex x1 g1, q1, fun y H2 d2 x2 g2 r2 q2 => l y H2 d2 (x1.trans x2) g2 r2 q2, fun c z H2 er x2 g2 r2 q2 => m c z H2 er (x1.trans x2) g2 r2 q2⟩, m⟩

/-! ### tests -/
@[simp] def wAnd (t u : VB) : VB := fun ρ Q E => t ρ (fun c => if c = true then u ρ Q E else Q false) E
@[simp] def wOr (t u : VB) : VB := fun ρ Q E => t ρ (fun c => if c = true then Q true else u ρ Q E) E
@[simp] def wNot (t : VB) : VB := fun ρ Q E => t ρ (fun c => Q (!c)) E
/-- and, or: whatever their whole is -/
def VWe (X : Cx) (b : Bg) (W : WX) (e : Expr) (t : VB) : Prop := PW X e (LB b W t)
theorem pw_mono {e : Expr} {t t' : TT} (h : PW X e t) (m : ∀ σ H Q, t' σ H Q → t σ H Q) : PW X e t' := ⟨fun w pins s σ H Q I q => h.run w pins s σ H Q I (m σ H Q q)⟩
theorem VWe.pt {t : VB} (h : VWe X b W e t) : VTe X b W e t := PW.pt h
theorem lb_then {k : Bool} {u : VB} {Zo Z : Addr → Prop} {σ : L2.St} {H H1 : Hp} {ρ : VEnv} {Q : Bool → Hp → Prop} {Qd : Bool → Prop} {Ed : Er → Prop} (v : VOk b Zo Z σ H ρ) (l : ∀ k H', Ex b H H' → b.G H' → Qd k → Q k H') (m : ∀ c x H' er, Ex b H H' → b.G H' → ErRp b Z H' c x er → Ed er → W c x σ H')
    (x1 : Ex b H H1) (g1 : b.G H1) (q : u ρ Qd Ed) : LB b W u σ H1 Q :=
  ⟨Zo, Z, ρ, _, Ed, v.ex x1 g1, q, fun k H2 x2 g2 q2 => l k H2 (x1.trans x2) g2 q2, fun c z H2 er x2 g2 r2 q2 => m c z H2 er (x1.trans x2) g2 r2 q2⟩
theorem vw_and1 {t : VB} (h : VTe X b W e t) : VWe X b W (.BoolOp .And [e] pos) t := pw_and1 h
theorem vw_or1 {t : VB} (h : VTe X b W e t) : VWe X b W (.BoolOp .Or [e] pos) t := pw_or1 h
theorem vw_and {t u : VB} (h1 : VTe X b W e1 t) (h2 : VWe X b W (.BoolOp .And (e2 :: es) pos) u) : VWe X b W (.BoolOp .And (e1 :: e2 :: es) pos) (wAnd t u) :=
  pw_mono (pw_and h1 h2) fun σ H Q ⟨Zo, Z, ρ, Qd, Ed, v, q, l, m⟩ => ⟨Zo, Z, ρ, _, Ed, v, q, fun k H1 x1 g1 q1 => by
    cases k with
    | true => exact lb_then (k := true) v l m x1 g1 q1
    | false => exact l false H1 x1 g1 q1, m⟩
theorem vw_or {t u : VB} (h1 : VTe X b W e1 t) (h2 : VWe X b W (.BoolOp .Or (e2 :: es) pos) u) : VWe X b W (.BoolOp .Or (e1 :: e2 :: es) pos) (wOr t u) :=
  pw_mono (pw_or h1 h2) fun σ H Q ⟨Zo, Z, ρ, Qd, Ed, v, q, l, m⟩ => ⟨Zo, Z, ρ, _, Ed, v, q, fun k H1 x1 g1 q1 => by
    cases k with
    | false => exact lb_then (k := true) v l m x1 g1 q1
    | true => exact l true H1 x1 g1 q1, m⟩
theorem vt_not {t : VB} (h1 : VTe X b W e1 t) : VTe X b W (.UnaryOp .Not e1 pos) (wNot t) :=
  pt_mono (pt_not h1) fun σ H Q ⟨Zo, Z, ρ, Qd, Ed, v, q, l, m⟩ => ⟨Zo, Z, ρ, _, Ed, v, q, fun k H1 x1 g1 q1 => l _ H1 x1 g1 q1, m⟩
end
end VL
set_option Elab.async false
set_option linter.all false
set_option maxRecDepth 100000
set_option maxHeartbeats 4000000
namespace VL
open PySem PySem.Spec PyProof.Rows L2

/-- a text by its signs -/
abbrev mkS (l : List Nat) : Str := ⟨l.toArray⟩
abbrev sl (x : Str) : List Nat := x.cps.toList

/-! ### many borrowed values -/
inductive Rbs (b : Bg) (Z : Addr → Prop) (H : Hp) : List V → List D → Prop
  | nil : Rbs b Z H [] []
  | cons {v : V} {d : D} {vs : List V} {ds : List D} : Rb b Z H v d → Rbs b Z H vs ds → Rbs b Z H (v :: vs) (d :: ds)
def LAX (b : Bg) (W : WX) (t : VA) : TA := fun σ H Q => ∃ Zo Z ρ Qd Ed, VOk b Zo Z σ H ρ ∧ t ρ Qd Ed ∧
  (∀ v H' d, Ex b H H' → b.G H' → Rbs b Z H' v d → Qd d → Q v H') ∧ ∀ c x H' er, Ex b H H' → b.G H' → ErRp b Z H' c x er → Ed er → W c x σ H'
def VXs (X : Cx) (b : Bg) (W : WX) (es : List Expr) (t : VA) : Prop := PA X es (LAX b W t)

/-- a rule of a list of values -/
def CalD (b : Bg) (R : (Addr → Prop) → Hp → Hp → V → D → Prop) (r : List V → Hp → VK → Prop) (g : List D → (D → Prop) → Prop) : Prop :=
  ∀ (Z : Addr → Prop) (H : Hp) (x : List V) (dx : List D) (Q : VK) (Qd : D → Prop), Gd b Z H → Rbs b Z H x dx → g dx Qd → (∀ v H' d, Ex b H H' → b.G H' → R Z H H' v d → Qd d → Q v H') → r x H Q
@[simp] def vCal (g : List D → (D → Prop) → Prop) (ta : VA) : VT := fun ρ Q E => ta ρ (fun ds => g ds Q) E
/-- a method of a value -/
def MetD (b : Bg) (R : (Addr → Prop) → Hp → Hp → V → D → Prop) (T : V → Hp → Prop) (r : V → List V → Hp → VK → Prop) (g : D → List D → (D → Prop) → Prop) : Prop :=
  ∀ (Z : Addr → Prop) (H : Hp) (o : V) (d : D) (x : List V) (dx : List D) (Q : VK) (Qd : D → Prop), Gd b Z H → Rb b Z H o d → Rbs b Z H x dx → g d dx Qd → (∀ v H' d, Ex b H H' → b.G H' → R Z H H' v d → Qd d → Q v H') → r o x H Q
@[simp] def vMet (g : D → List D → (D → Prop) → Prop) (to : VT) (ta : VA) : VT := fun ρ Q E => to ρ (fun d => ta ρ (fun ds => g d ds Q) E) E

section
variable {X : Cx} {b : Bg} {W : WX} {e e1 e2 e3 : Expr} {es : List Expr} {t t1 t2 t3 : VT} {u : VA} {pos p : Pos} {r : List V → Hp → VK → Prop} {g : List D → (D → Prop) → Prop} {x : Str} {id T : String}
theorem Rbs.ex {Z : Addr → Prop} {H H' : Hp} (hk : ∀ a o, H a = some o → ¬ Z a → H' a = some o) (x : Ex b H H') : ∀ {v : List V} {d : List D}, Rbs b Z H v d → Rbs b Z H' v d
  | _, _, .nil => .nil
  | _, _, .cons r t => .cons (r.ex hk x) (Rbs.ex hk x t)
theorem Rbs.length {Z : Addr → Prop} {H : Hp} : ∀ {v : List V} {d : List D}, Rbs b Z H v d → v.length = d.length
  | _, _, .nil => rfl
  | _, _, .cons _ t => congrArg (· + 1) (Rbs.length t)
theorem vxs_nil : VXs X b W [] vNil := pa_mono pa_nil fun σ H Q ⟨Zo, Z, ρ, Qd, Ed, v, q, l, _⟩ => l [] H [] Ex.refl v.g .nil q
theorem vxs_cons (h : VX X b W e t) (k : VXs X b W es u) (hs : starEach (e :: es) X.env = (false, eval e X.env) :: starEach es X.env := by rfl) : VXs X b W (e :: es) (vCons t u) :=
  pa_mono (pa_cons h k hs) fun σ H Q ⟨Zo, Z, ρ, Qd, Ed, v, q, l, m⟩ => ⟨Zo, Z, ρ, _, Ed, v, q, fun x H1 d x1 g1 r1 q1 =>
    ⟨Zo, Z, ρ, _, Ed, v.ex x1 g1, q1, fun xs H2 ds x2 g2 r2 q2 => l (x :: xs) H2 (d :: ds) (x1.trans x2) g2 (.cons (r1.ex ((v.ex x1 g1).keep x2) x2) r2) q2, fun c y H2 er x2 g2 r2 q2 => m c y H2 er (x1.trans x2) g2 r2 q2⟩, m⟩
theorem coreC {R : (Addr → Prop) → Hp → Hp → V → D → Prop} (hR : ∀ Z H H1 H2 v d, b.G H1 → Ex b H H1 → R Z H1 H2 v d → R Z H H2 v d) (hd : CalD b R r g) : ∀ σ H Q, LE b W R (vCal g u) σ H Q → tCB r (LAX b W u) σ H Q :=
  fun σ H Q ⟨Zo, Z, ρ, Qd, Ed, v, q, l, m⟩ => ⟨Zo, Z, ρ, _, Ed, v, q, fun xs H1 ds x1 g1 r1 q1 => hd Z H1 xs ds Q Qd (v.ex x1 g1).gd r1 q1 fun w H2 d x2 g2 r2 q2 => l w H2 d (x1.trans x2) g2 (hR _ _ _ _ _ _ g1 x1 r2) q2, m⟩
theorem ve_callB (hc : CallR X (.builtin id) r) (hd : CalD b (RE b) r g) (hg : Gl X x) (hm : X.mg x = none) (hv : bootBuiltins x = some (.builtin id)) (ha : VXs X b W (e :: es) u) (hn : x ≠ "__name__" := by decide) (hdb : (x == ("__debug__" : Str)) = false := by decide)
    (he : starEach (e :: es) X.env = (false, eval e X.env) :: starEach es X.env := by rfl) (hpl : (backTo pos (starEach es X.env)).any (·.1) = false := by rfl) : VE X b W (.Call (.Name x p) (e :: es) [] pos) (vCal g u) :=
  pe_mono (pe_callB hc hg hm hv ha hn hdb he hpl) (coreC hRE hd)
theorem vn_callB (hc : CallR X (.builtin id) r) (hd : CalD b (RN b) r g) (hg : Gl X x) (hm : X.mg x = none) (hv : bootBuiltins x = some (.builtin id)) (ha : VXs X b W (e :: es) u) (hn : x ≠ "__name__" := by decide) (hdb : (x == ("__debug__" : Str)) = false := by decide)
    (he : starEach (e :: es) X.env = (false, eval e X.env) :: starEach es X.env := by rfl) (hpl : (backTo pos (starEach es X.env)).any (·.1) = false := by rfl) : VN X b W (.Call (.Name x p) (e :: es) [] pos) (vCal g u) :=
  pe_mono (pe_callB hc hg hm hv ha hn hdb he hpl) (coreC hRN hd)
theorem ve_callTy (hc : CallR X (.type T) r) (hd : CalD b (RE b) r g) (hg : Gl X x) (hm : X.mg x = none) (hv : bootBuiltins x = some (.type T)) (ha : VXs X b W (e :: es) u) (hn : x ≠ "__name__" := by decide) (hdb : (x == ("__debug__" : Str)) = false := by decide)
    (he : starEach (e :: es) X.env = (false, eval e X.env) :: starEach es X.env := by rfl) (hpl : (backTo pos (starEach es X.env)).any (·.1) = false := by rfl) : VE X b W (.Call (.Name x p) (e :: es) [] pos) (vCal g u) :=
  pe_mono (pe_callTy hc hg hm hv ha hn hdb he hpl) (coreC hRE hd)
theorem vn_callTy (hc : CallR X (.type T) r) (hd : CalD b (RN b) r g) (hg : Gl X x) (hm : X.mg x = none) (hv : bootBuiltins x = some (.type T)) (ha : VXs X b W (e :: es) u) (hn : x ≠ "__name__" := by decide) (hdb : (x == ("__debug__" : Str)) = false := by decide)
    (he : starEach (e :: es) X.env = (false, eval e X.env) :: starEach es X.env := by rfl) (hpl : (backTo pos (starEach es X.env)).any (·.1) = false := by rfl) : VN X b W (.Call (.Name x p) (e :: es) [] pos) (vCal g u) :=
  pe_mono (pe_callTy hc hg hm hv ha hn hdb he hpl) (coreC hRN hd)

/-! ### items -/
@[simp] def gIx : D → D → (D → Prop) → Prop
  | .py (.list xs), .py (.int i), Q => ∃ d, atI xs i = some d ∧ Q (.py d)
  | .py (.tuple xs), .py (.int i), Q => ∃ d, atI xs i = some d ∧ Q (.py d)
  | .py (.str z), .py (.int i), Q => z.length ≤ sizeLine ∧ ∃ c, atI z.cps.toList i = some c ∧ Q (.py (.str (mkS [c])))
  | _, _, _ => False
theorem Rqs.atI {Z : Addr → Prop} {H : Hp} {v : List V} {d : List PyData} {i : Int} {x : PyData} (r : Rqs Z H v d) (h : L2.atI d i = some x) : ∃ u, L2.atI v i = some u ∧ Rq Z H u x := by
  unfold L2.atI at h ⊢
  rw [r.length]
  cases e : ixN d.length i with
  | none => rw [e] at h; cases h
  | some j =>
    rw [e] at h
    exact r.get h
theorem rd_ix {K : PySem.W.Frag} : OpD b (RE b) (rIx K) gIx := by
  intro Z H x y dx dy Q Qd gd rx ry h k
  match dx, dy, h, rx, ry with
  | .py (.list xs), .py (.int i), ⟨d, e, h⟩, rx, ry =>
    obtain ⟨a, us, rfl, ha, qa⟩ := rx.list
    obtain ⟨w, e1, r1⟩ := qa.atI e
    exact .inl ⟨a, us, i, w, rfl, ry.int, SqL.of ha, e1, k w H (.py d) Ex.refl gd.g r1 h⟩
  | .py (.tuple xs), .py (.int i), ⟨d, e, h⟩, rx, ry =>
    obtain ⟨a, oa, us, rfl, ha, da, na, qa⟩ := rx.tuple
    obtain ⟨w, e1, r1⟩ := qa.atI e
    exact .inr (.inl ⟨a, us, i, w, rfl, ry.int, SqT.th ha, e1, k w H (.py d) Ex.refl gd.g r1 h⟩)
  | .py (.str z), .py (.int i), ⟨hl, c, e, h⟩, rx, ry =>
    exact .inr (.inr ⟨z, i, c, rx.str, ry.int, hl, e, k _ H (.py (.str (mkS [c]))) Ex.refl gd.g (.str _) h⟩)
theorem ve_ix (h1 : VX X b W e1 t1) (h2 : VX X b W e2 t2) (hs : PlainIx e2 := by exact fun _ _ => rfl) : VE X b W (.Subscript e1 e2 pos) (vBin gIx t1 t2) :=
  pe_mono (pe_ix ix_seq h1 h2 hs) (core2 hRE rd_ix)

/-! ### slices -/
def cutL {α : Type} (xs : List α) (lo hi : Option Int) : List α := (xs.drop (HT.sIx xs.length 0 lo)).take (HT.sIx xs.length xs.length hi - HT.sIx xs.length 0 lo)
theorem Rqs.cut {Z : Addr → Prop} {H : Hp} {v : List V} {d : List PyData} (lo hi : Option Int) (r : Rqs Z H v d) : Rqs Z H (cutV v lo hi) (cutL d lo hi) := by
  unfold cutV cutL
  rw [r.length]
  exact (r.drop _).take _
theorem cutL_whole {α : Type} {xs : List α} {lo hi : Option Int} (h : HT.sIx xs.length 0 lo = 0 ∧ HT.sIx xs.length xs.length hi = xs.length) : cutL xs lo hi = xs := by
  unfold cutL
  rw [h.1, h.2]
  simp
abbrev VO := VEnv → (Option Int → Prop) → (Er → Prop) → Prop
def LO (b : Bg) (W : WX) (t : VO) : TO := fun σ H Q => ∃ Zo Z ρ Qd Ed, VOk b Zo Z σ H ρ ∧ t ρ Qd Ed ∧
  (∀ k H', Ex b H H' → b.G H' → Qd k → Q k H') ∧ ∀ c x H' er, Ex b H H' → b.G H' → ErRp b Z H' c x er → Ed er → W c x σ H'
def VPt (X : Cx) (b : Bg) (W : WX) (e : Option Expr) (t : VO) : Prop := PO X e (LO b W t)
theorem po_mono {e : Option Expr} {t t' : TO} (h : PO X e t) (m : ∀ σ H Q, t' σ H Q → t σ H Q) : PO X e t' := ⟨fun pins s σ H Q I q => h.run pins s σ H Q I (m σ H Q q)⟩
@[simp] def oNo : VO := fun _ Q _ => Q none
@[simp] def oAt (t : VT) : VO := fun ρ Q E => t ρ (fun d => ∃ i, d = .py (.int i) ∧ Q (some i)) E
theorem vo_no : VPt X b W none oNo := po_mono po_none fun σ H Q ⟨Zo, Z, ρ, Qd, Ed, v, q, l, m⟩ => l none H Ex.refl v.g q
theorem vo_at (h : VX X b W e t) : VPt X b W (some e) (oAt t) := po_mono (po_some h) fun σ H Q ⟨Zo, Z, ρ, Qd, Ed, v, q, l, m⟩ => ⟨Zo, Z, ρ, _, Ed, v, q, fun x H1 d x1 g1 r1 ⟨i, e, q1⟩ => by
    subst e
    exact ⟨i, r1.int, l _ H1 x1 g1 q1⟩, m⟩
@[simp] def gSl : D → Option Int → Option Int → (D → Prop) → Prop
  | .py (.list xs), lo, hi, Q => Q (.py (.list (cutL xs lo hi)))
  | .py (.tuple xs), lo, hi, Q => Q (.py (.tuple (cutL xs lo hi)))
  | .py (.str z), lo, hi, Q => z.length ≤ sizeLine ∧ Q (.py (.str (mkS (cutL z.cps.toList lo hi))))
  | _, _, _, _ => False
@[simp] def gSlL : D → Option Int → Option Int → (D → Prop) → Prop
  | .py (.list xs), lo, hi, Q => Q (.py (.list (cutL xs lo hi)))
  | _, _, _, _ => False
@[simp] def vSl (g : D → Option Int → Option Int → (D → Prop) → Prop) (t : VT) (tl th : VO) : VT := fun ρ Q E => t ρ (fun x => tl ρ (fun lo => th ρ (fun hi => g x lo hi Q) E) E) E
def SliD (b : Bg) (R : (Addr → Prop) → Hp → Hp → V → D → Prop) (r : V → Option Int → Option Int → Hp → VK → Prop) (g : D → Option Int → Option Int → (D → Prop) → Prop) : Prop :=
  ∀ (Z : Addr → Prop) (H : Hp) (x : V) (lo hi : Option Int) (dx : D) (Q : VK) (Qd : D → Prop), Gd b Z H → Rb b Z H x dx → g dx lo hi Qd → (∀ v H' d, Ex b H H' → b.G H' → R Z H H' v d → Qd d → Q v H') → r x lo hi H Q
theorem coreS {R : (Addr → Prop) → Hp → Hp → V → D → Prop} {r : V → Option Int → Option Int → Hp → VK → Prop} {g : D → Option Int → Option Int → (D → Prop) → Prop} {tl th : VO} (hR : ∀ Z H H1 H2 v d, b.G H1 → Ex b H H1 → R Z H1 H2 v d → R Z H H2 v d) (hd : SliD b R r g) :
    ∀ σ H Q, LE b W R (vSl g t tl th) σ H Q → tSl r (LE b W (fun Z _ H v d => Rb b Z H v d) t) (LO b W tl) (LO b W th) σ H Q :=
  fun σ H Q ⟨Zo, Z, ρ, Qd, Ed, v, q, l, m⟩ => ⟨Zo, Z, ρ, _, Ed, v, q, fun x H1 d x1 g1 r1 q1 =>
    ⟨Zo, Z, ρ, _, Ed, v.ex x1 g1, q1, fun lo H2 x2 g2 q2 => ⟨Zo, Z, ρ, _, Ed, (v.ex x1 g1).ex x2 g2, q2, fun hi H3 x3 g3 q3 =>
        hd Z H3 x lo hi d Q Qd (((v.ex x1 g1).ex x2 g2).ex x3 g3).gd ((r1.ex ((v.ex x1 g1).keep x2) x2).ex (((v.ex x1 g1).ex x2 g2).keep x3) x3) q3 fun u H4 d4 x4 g4 r4 q4 => l u H4 d4 (((x1.trans x2).trans x3).trans x4) g4 (hR _ _ _ _ _ _ g3 ((x1.trans x2).trans x3) r4) q4,
        fun c z H3 er x3 g3 r3 q3 => m c z H3 er ((x1.trans x2).trans x3) g3 r3 q3⟩,
      fun c z H2 er x2 g2 r2 q2 => m c z H2 er (x1.trans x2) g2 r2 q2⟩, m⟩
theorem rd_slL {K : PySem.W.Frag} : SliD b (RN b) (rSlL K) gSlL := by
  intro Z H x lo hi dx Q Qd gd rx h k
  match dx, h, rx with
  | .py (.list xs), h, rx =>
    obtain ⟨a, us, rfl, ha, qa⟩ := rx.list
    exact ⟨a, us, rfl, SqL.of ha, fun p hp => k _ _ (.py (.list (cutL xs lo hi))) (Ex.new hp) (gd.new hp) ⟨p, rfl, hp, _, upd_same, (qa.cut lo hi).up' hp⟩ h⟩
theorem cutS_eq (z : Str) (lo hi : Option Int) : cutS z lo hi = mkS (cutL z.cps.toList lo hi) := by
  unfold cutS cutL
  first | rfl | simp [Str.length]
theorem rd_sl {K : PySem.W.Frag} : SliD b (RE b) (fun x lo hi H Q => rSlL K x lo hi H Q ∨ (fun x lo hi H Q => rSlF K x lo hi H Q ∨ rSlS x lo hi H Q) x lo hi H Q) gSl := by
  intro Z H x lo hi dx Q Qd gd rx h k
  match dx, h, rx with
  | .py (.list xs), h, rx =>
    refine .inl (rd_slL Z H x lo hi (.py (.list xs)) Q Qd gd rx h fun v H' d x1 g1 ⟨a, e, n, o⟩ q1 => k v H' d x1 g1 ?_ q1)
    subst e
    exact o.rp (fun _ z => .inl z) (gd.fresh n)
  | .py (.tuple xs), h, rx =>
    obtain ⟨a, oa, us, rfl, ha, da, na, qa⟩ := rx.tuple
    refine .inr (.inl ⟨a, us, rfl, SqT.th ha, fun hw => ?_, fun _ p o hp ho => ?_⟩)
    · rw [qa.length] at hw
      have h : Qd (.py (.tuple (cutL xs lo hi))) := h
      rw [cutL_whole hw] at h
      exact k _ H (.py (.tuple xs)) Ex.refl gd.g (.tup ha da na qa) h
    · exact k _ _ (.py (.tuple (cutL xs lo hi))) (Ex.new hp) (gd.new hp) (.tup upd_same ho (gd.fresh hp) ((qa.cut lo hi).up hp)) h
  | .py (.str z), ⟨hl, h⟩, rx =>
    refine .inr (.inr ⟨z, rx.str, hl, ?_⟩)
    rw [cutS_eq]
    exact k _ H (.py (.str _)) Ex.refl gd.g (.str _) h
theorem ve_sl {lo hi : Option Expr} {tl th : VO} {p2 : Pos} (h : VX X b W e t) (h1 : VPt X b W lo tl) (h2 : VPt X b W hi th) : VE X b W (.Subscript e (.Slice lo hi none p2) pos) (vSl gSl t tl th) :=
  pe_mono (pe_slice (sl_list.or (sl_tupF.or sl_str)) h h1 h2) (coreS hRE rd_sl)
theorem vn_sl {lo hi : Option Expr} {tl th : VO} {p2 : Pos} (h : VX X b W e t) (h1 : VPt X b W lo tl) (h2 : VPt X b W hi th) : VN X b W (.Subscript e (.Slice lo hi none p2) pos) (vSl gSlL t tl th) :=
  pe_mono (pe_slice sl_list h h1 h2) (coreS hRN rd_slL)
end
end VL
set_option Elab.async false
set_option linter.all false
set_option maxRecDepth 100000
set_option maxHeartbeats 4000000
namespace VL
open PySem PySem.Spec PyProof.Rows L2

section
variable {X : Cx} {b : Bg} {W : WX} {e e1 e2 e3 o : Expr} {es : List Expr} {t t1 t2 t3 : VT} {u : VA} {pos p apos cpos : Pos} {x name : Str} {id T : String}
theorem CalD.toE {r : List V → Hp → VK → Prop} {g : List D → (D → Prop) → Prop} (h : CalD b (RN b) r g) : CalD b (RE b) r g := fun Z H x dx Q Qd gd rx q k =>
  h Z H x dx Q Qd gd rx q fun v H' d x1 g1 ⟨a, e, n, o⟩ q1 => k v H' d x1 g1 (by subst e; exact o.rp (fun _ z => .inl z) (gd.fresh n)) q1
theorem Rbs.one {Z : Addr → Prop} {H : Hp} {v : List V} {d : D} (r : Rbs b Z H v [d]) : ∃ x, v = [x] ∧ Rb b Z H x d := by
  cases r with
  | cons r t => cases t; exact ⟨_, rfl, r⟩
theorem Rbs.two {Z : Addr → Prop} {H : Hp} {v : List V} {d d2 : D} (r : Rbs b Z H v [d, d2]) : ∃ x y, v = [x, y] ∧ Rb b Z H x d ∧ Rb b Z H y d2 := by
  cases r with
  | cons r t =>
    cases t with
    | cons r2 t => cases t; exact ⟨_, _, rfl, r, r2⟩

/-! ### built-in functions -/
@[simp] def gLen : List D → (D → Prop) → Prop
  | [.py (.list xs)], Q => Q (.py (.int xs.length))
  | [.py (.tuple xs)], Q => Q (.py (.int xs.length))
  | [.py (.str z)], Q => z.length ≤ sizeLine ∧ Q (.py (.int z.length))
  | [.py (.dict xs)], Q => Q (.py (.int xs.length))
  | _, _ => False
def rLen (K : PySem.W.Frag) : List V → Hp → VK → Prop := fun xs H Q => (fun xs H Q => ∃ x n, xs = [x] ∧ LenV K x H n ∧ Q (.int n) H) xs H Q ∨ (fun xs H Q => ∃ a kvs, xs = [V.ref a] ∧ H a = some (.dK kvs) ∧ Q (.int kvs.length) H) xs H Q
theorem rd_len : CalD b (RE b) (rLen X.K) gLen := by
  intro Z H vs ds Q Qd gd rx h k
  match ds, h, rx with
  | [.py (.list xs)], h, rx =>
    obtain ⟨x, rfl, r⟩ := rx.one
    obtain ⟨a, us, rfl, ha, qa⟩ := r.list
    exact .inl ⟨_, us.length, rfl, .inl ⟨us, SqL.of ha, rfl⟩, k _ H (.py (.int us.length)) Ex.refl gd.g (.int _) (by rw [qa.length]; exact h)⟩
  | [.py (.tuple xs)], h, rx =>
    obtain ⟨x, rfl, r⟩ := rx.one
    obtain ⟨a, oa, us, rfl, ha, da, na, qa⟩ := r.tuple
    exact .inl ⟨_, us.length, rfl, .inr ⟨us, SqT.th ha, rfl⟩, k _ H (.py (.int us.length)) Ex.refl gd.g (.int _) (by rw [qa.length]; exact h)⟩
  | [.py (.str z)], ⟨hl, h⟩, rx =>
    obtain ⟨x, rfl, r⟩ := rx.one
    exact .inl ⟨_, z.length, rfl, (by rw [r.str]; exact ⟨hl, rfl⟩), k _ H (.py (.int z.length)) Ex.refl gd.g (.int _) h⟩
  | [.py (.dict xs)], h, rx =>
    obtain ⟨x, rfl, r⟩ := rx.one
    obtain ⟨a, us, rfl, ha, qa⟩ := r.dict
    exact .inr ⟨a, us, rfl, ha, k _ H (.py (.int us.length)) Ex.refl gd.g (.int _) (by rw [qa.length]; exact h)⟩
theorem ve_len (hg : Gl X "len") (hm : X.mg "len" = none) (ha : VXs X b W [e] u) (he : starEach [e] X.env = (false, eval e X.env) :: starEach [] X.env := by rfl) (hpl : (backTo pos (starEach [] X.env)).any (·.1) = false := by rfl) :
    VE X b W (.Call (.Name "len" p) [e] [] pos) (vCal gLen u) := ve_callB (CallR.or call_len call_lenD) rd_len hg hm PySem.boot_len ha (by decide) (by decide) he hpl

@[simp] def gAbs : List D → (D → Prop) → Prop
  | [.py (.int i)], Q => Q (.py (.int (if i < 0 then -i else i)))
  | _, _ => False
theorem rd_abs : CalD b (RE b) (fun xs H Q => ∃ i, xs = [.int i] ∧ Q (.int (if i < 0 then -i else i)) H) gAbs := by
  intro Z H vs ds Q Qd gd rx h k
  match ds, h, rx with
  | [.py (.int i)], h, rx =>
    obtain ⟨x, rfl, r⟩ := rx.one
    exact ⟨i, by rw [r.int], k _ H (.py (.int _)) Ex.refl gd.g (.int _) h⟩
@[simp] def gInt : List D → (D → Prop) → Prop
  | [.py (.int i)], Q => Q (.py (.int i))
  | [.py (.bool k)], Q => Q (.py (.int (if k then 1 else 0)))
  | [.py (.str z)], Q => ∃ n, intText? z = some n ∧ z.length ≤ 640 ∧ Q (.py (.int n))
  | _, _ => False
theorem rd_int : CalD b (RE b) (fun xs H Q => (fun xs H Q => (∃ i, xs = [.int i] ∧ Q (.int i) H) ∨ ∃ k, xs = [.bl k] ∧ Q (.int (if k then 1 else 0)) H) xs H Q ∨ (fun xs H Q => ∃ a n, xs = [.str a] ∧ PySem.intText? a = some n ∧ a.length ≤ 640 ∧ Q (.int n) H) xs H Q) gInt := by
  intro Z H vs ds Q Qd gd rx h k
  match ds, h, rx with
  | [.py (.int i)], h, rx =>
    obtain ⟨x, rfl, r⟩ := rx.one
    exact .inl (.inl ⟨i, by rw [r.int], k _ H (.py (.int i)) Ex.refl gd.g (.int i) h⟩)
  | [.py (.bool i)], h, rx =>
    obtain ⟨x, rfl, r⟩ := rx.one
    exact .inl (.inr ⟨i, by rw [r.bool], k _ H (.py (.int _)) Ex.refl gd.g (.int _) h⟩)
  | [.py (.str z)], ⟨n, h1, h2, h⟩, rx =>
    obtain ⟨x, rfl, r⟩ := rx.one
    exact .inr ⟨z, n, by rw [r.str], h1, h2, k _ H (.py (.int n)) Ex.refl gd.g (.int n) h⟩
@[simp] def gStr : List D → (D → Prop) → Prop
  | [.py (.int i)], Q => i.natAbs.log2 < 1920 ∧ Q (.py (.str (toString i)))
  | [.py (.str z)], Q => Q (.py (.str z))
  | _, _ => False
theorem rd_str : CalD b (RE b) (fun xs H Q => (fun xs H Q => ∃ i, xs = [.int i] ∧ i.natAbs.log2 < 1920 ∧ Q (.str (toString i)) H) xs H Q ∨ (fun xs H Q => ∃ a, xs = [.str a] ∧ Q (.str a) H) xs H Q) gStr := by
  intro Z H vs ds Q Qd gd rx h k
  match ds, h, rx with
  | [.py (.int i)], ⟨hl, h⟩, rx =>
    obtain ⟨x, rfl, r⟩ := rx.one
    exact .inl ⟨i, by rw [r.int], hl, k _ H (.py (.str _)) Ex.refl gd.g (.str _) h⟩
  | [.py (.str z)], h, rx =>
    obtain ⟨x, rfl, r⟩ := rx.one
    exact .inr ⟨z, by rw [r.str], k _ H (.py (.str z)) Ex.refl gd.g (.str z) h⟩
@[simp] def gBool : List D → (D → Prop) → Prop
  | [.py (.int i)], Q => Q (.py (.bool (i != 0)))
  | [.py (.bool k)], Q => Q (.py (.bool k))
  | _, _ => False
theorem rd_bool : CalD b (RE b) (fun xs H Q => (∃ i, xs = [.int i] ∧ Q (.bl (i != 0)) H) ∨ ∃ k, xs = [.bl k] ∧ Q (.bl k) H) gBool := by
  intro Z H vs ds Q Qd gd rx h k
  match ds, h, rx with
  | [.py (.int i)], h, rx =>
    obtain ⟨x, rfl, r⟩ := rx.one
    exact .inl ⟨i, by rw [r.int], k _ H (.py (.bool _)) Ex.refl gd.g (.bl _) h⟩
  | [.py (.bool z)], h, rx =>
    obtain ⟨x, rfl, r⟩ := rx.one
    exact .inr ⟨z, by rw [r.bool], k _ H (.py (.bool z)) Ex.refl gd.g (.bl z) h⟩
@[simp] def gTuple : List D → (D → Prop) → Prop
  | [.py (.list xs)], Q => Q (.py (.tuple xs))
  | [.py (.tuple xs)], Q => Q (.py (.tuple xs))
  | _, _ => False
theorem rd_tuple {K : PySem.W.Frag} : CalD b (RE b) (rTupOf K) gTuple := by
  intro Z H vs ds Q Qd gd rx h k
  match ds, h, rx with
  | [.py (.list xs)], h, rx =>
    obtain ⟨x, rfl, r⟩ := rx.one
    obtain ⟨a, us, rfl, ha, qa⟩ := r.list
    exact ⟨a, us, rfl, .inl ⟨SqL.of ha, fun p o hp ho => k _ _ (.py (.tuple xs)) (Ex.new hp) (gd.new hp) (.tup upd_same ho (gd.fresh hp) (qa.up hp)) h⟩⟩
  | [.py (.tuple xs)], h, rx =>
    obtain ⟨x, rfl, r⟩ := rx.one
    obtain ⟨a, oa, us, rfl, ha, da, na, qa⟩ := r.tuple
    exact ⟨a, us, rfl, .inr ⟨SqT.th ha, k _ H (.py (.tuple xs)) Ex.refl gd.g (.tup ha da na qa) h⟩⟩
@[simp] def gList : List D → (D → Prop) → Prop
  | [.py (.list xs)], Q => Q (.py (.list xs))
  | [.py (.tuple xs)], Q => Q (.py (.list xs))
  | _, _ => False
theorem rd_list {K : PySem.W.Frag} : CalD b (RN b) (fun xs H Q => ∃ p ys, xs = [.ref p] ∧ (SqL K H p ys ∨ SqT K H p ys) ∧ ∀ l, H l = none → Q (.ref l) (upd H l (.lst ys))) gList := by
  intro Z H vs ds Q Qd gd rx h k
  match ds, h, rx with
  | [.py (.list xs)], h, rx =>
    obtain ⟨x, rfl, r⟩ := rx.one
    obtain ⟨a, us, rfl, ha, qa⟩ := r.list
    exact ⟨a, us, rfl, .inl (SqL.of ha), fun p hp => k _ _ (.py (.list xs)) (Ex.new hp) (gd.new hp) ⟨p, rfl, hp, us, upd_same, qa.up' hp⟩ h⟩
  | [.py (.tuple xs)], h, rx =>
    obtain ⟨x, rfl, r⟩ := rx.one
    obtain ⟨a, oa, us, rfl, ha, da, na, qa⟩ := r.tuple
    exact ⟨a, us, rfl, .inr (SqT.th ha), fun p hp => k _ _ (.py (.list xs)) (Ex.new hp) (gd.new hp) ⟨p, rfl, hp, us, upd_same, qa.up' hp⟩ h⟩
def allB : List PyData → Option (List Bool)
  | [] => some []
  | .bool k :: r => (allB r).map (k :: ·)
  | _ :: _ => none
def allI : List PyData → Option (List Int)
  | [] => some []
  | .int k :: r => (allI r).map (k :: ·)
  | _ :: _ => none
def allS : List PyData → Option (List Str)
  | [] => some []
  | .str k :: r => (allS r).map (k :: ·)
  | _ :: _ => none
theorem allB_map (l : List Bool) : allB (l.map PyData.bool) = some l := by
  induction l with
  | nil => rfl
  | cons a l ih => simp [allB, ih]
theorem allI_map (l : List Int) : allI (l.map PyData.int) = some l := by
  induction l with
  | nil => rfl
  | cons a l ih => simp [allI, ih]
theorem allS_map (l : List Str) : allS (l.map PyData.str) = some l := by
  induction l with
  | nil => rfl
  | cons a l ih => simp [allS, ih]
theorem allB_of : ∀ {l : List PyData} {bs : List Bool}, allB l = some bs → l = bs.map PyData.bool
  | [], _, h => by cases h; rfl
  | .bool k :: r, bs, h => by
    cases e : allB r with
    | none => rw [allB, e] at h; cases h
    | some q => rw [allB, e] at h; cases h; rw [List.map_cons, ← allB_of e]
  | .none :: _, _, h | .int _ :: _, _, h | .str _ :: _, _, h | .list _ :: _, _, h | .tuple _ :: _, _, h | .dict _ :: _, _, h => by cases h
theorem allI_of : ∀ {l : List PyData} {bs : List Int}, allI l = some bs → l = bs.map PyData.int
  | [], _, h => by cases h; rfl
  | .int k :: r, bs, h => by
    cases e : allI r with
    | none => rw [allI, e] at h; cases h
    | some q => rw [allI, e] at h; cases h; rw [List.map_cons, ← allI_of e]
  | .none :: _, _, h | .bool _ :: _, _, h | .str _ :: _, _, h | .list _ :: _, _, h | .tuple _ :: _, _, h | .dict _ :: _, _, h => by cases h
theorem allS_of : ∀ {l : List PyData} {bs : List Str}, allS l = some bs → l = bs.map PyData.str
  | [], _, h => by cases h; rfl
  | .str k :: r, bs, h => by
    cases e : allS r with
    | none => rw [allS, e] at h; cases h
    | some q => rw [allS, e] at h; cases h; rw [List.map_cons, ← allS_of e]
  | .none :: _, _, h | .bool _ :: _, _, h | .int _ :: _, _, h | .list _ :: _, _, h | .tuple _ :: _, _, h | .dict _ :: _, _, h => by cases h
@[simp] def gSum : List D → (D → Prop) → Prop
  | [.py (.list xs)], Q => ∃ ns, allI xs = some ns ∧ Q (.py (.int ns.sum))
  | _, _ => False
theorem rd_sum {K : PySem.W.Frag} : CalD b (RE b) (rSum K) gSum := by
  intro Z H vs ds Q Qd gd rx h k
  match ds, h, rx with
  | [.py (.list xs)], ⟨ns, e, h⟩, rx =>
    obtain ⟨x, rfl, r⟩ := rx.one
    obtain ⟨a, us, rfl, ha, qa⟩ := r.list
    rw [allI_of e] at qa
    rw [qa.ints] at ha
    exact ⟨a, ns, rfl, SqL.of ha, k _ H (.py (.int _)) Ex.refl gd.g (.int _) h⟩
@[simp] def gAll : List D → (D → Prop) → Prop
  | [.py (.list xs)], Q => ∃ ns, allB xs = some ns ∧ Q (.py (.bool (ns.all fun k => k)))
  | _, _ => False
@[simp] def gAny : List D → (D → Prop) → Prop
  | [.py (.list xs)], Q => ∃ ns, allB xs = some ns ∧ Q (.py (.bool (ns.any fun k => k)))
  | _, _ => False
theorem rd_all {K : PySem.W.Frag} : CalD b (RE b) (rAll K) gAll := by
  intro Z H vs ds Q Qd gd rx h k
  match ds, h, rx with
  | [.py (.list xs)], ⟨ns, e, h⟩, rx =>
    obtain ⟨x, rfl, r⟩ := rx.one
    obtain ⟨a, us, rfl, ha, qa⟩ := r.list
    rw [allB_of e] at qa
    rw [qa.bools] at ha
    exact ⟨a, ns, rfl, SqL.of ha, k _ H (.py (.bool _)) Ex.refl gd.g (.bl _) h⟩
theorem rd_any {K : PySem.W.Frag} : CalD b (RE b) (rAny K) gAny := by
  intro Z H vs ds Q Qd gd rx h k
  match ds, h, rx with
  | [.py (.list xs)], ⟨ns, e, h⟩, rx =>
    obtain ⟨x, rfl, r⟩ := rx.one
    obtain ⟨a, us, rfl, ha, qa⟩ := r.list
    rw [allB_of e] at qa
    rw [qa.bools] at ha
    exact ⟨a, ns, rfl, SqL.of ha, k _ H (.py (.bool _)) Ex.refl gd.g (.bl _) h⟩
/-- the greatest, the least -/
def maxL : List Int → Int
  | [] => 0
  | [a] => a
  | a :: r => max a (maxL r)
def minL : List Int → Int
  | [] => 0
  | [a] => a
  | a :: r => min a (minL r)
theorem maxL_spec : ∀ (l : List Int), l ≠ [] → maxL l ∈ l ∧ ∀ y, y ∈ l → y ≤ maxL l
  | [], h => absurd rfl h
  | [a], _ => by simp [maxL]
  | a :: c :: r, _ => by
    obtain ⟨h1, h2⟩ := maxL_spec (c :: r) (by simp)
    show max a (maxL (c :: r)) ∈ _ ∧ ∀ y, y ∈ _ → y ≤ max a (maxL (c :: r))
    refine ⟨?_, fun y hy => ?_⟩
    · rcases Int.le_total a (maxL (c :: r)) with h | h
      · rw [Int.max_eq_right h]; exact List.mem_cons_of_mem _ h1
      · rw [Int.max_eq_left h]; exact List.mem_cons_self
    · rcases List.mem_cons.mp hy with rfl | hy
      · exact Int.le_max_left _ _
      · exact Int.le_trans (h2 y hy) (Int.le_max_right _ _)
theorem minL_spec : ∀ (l : List Int), l ≠ [] → minL l ∈ l ∧ ∀ y, y ∈ l → minL l ≤ y
  | [], h => absurd rfl h
  | [a], _ => by simp [minL]
  | a :: c :: r, _ => by
    obtain ⟨h1, h2⟩ := minL_spec (c :: r) (by simp)
    show min a (minL (c :: r)) ∈ _ ∧ ∀ y, y ∈ _ → min a (minL (c :: r)) ≤ y
    refine ⟨?_, fun y hy => ?_⟩
    · rcases Int.le_total a (minL (c :: r)) with h | h
      · rw [Int.min_eq_left h]; exact List.mem_cons_self
      · rw [Int.min_eq_right h]; exact List.mem_cons_of_mem _ h1
    · rcases List.mem_cons.mp hy with rfl | hy
      · exact Int.min_le_left _ _
      · exact Int.le_trans (Int.min_le_right _ _) (h2 y hy)
@[simp] def gMax : List D → (D → Prop) → Prop
  | [.py (.list xs)], Q => ∃ ns, allI xs = some ns ∧ ns ≠ [] ∧ Q (.py (.int (maxL ns)))
  | [.py (.int i), .py (.int j)], Q => Q (.py (.int (max i j)))
  | _, _ => False
@[simp] def gMin : List D → (D → Prop) → Prop
  | [.py (.list xs)], Q => ∃ ns, allI xs = some ns ∧ ns ≠ [] ∧ Q (.py (.int (minL ns)))
  | [.py (.int i), .py (.int j)], Q => Q (.py (.int (min i j)))
  | _, _ => False
theorem rd_max {K : PySem.W.Frag} : CalD b (RE b) (fun xs H Q => (fun xs H Q => ∃ i j, xs = [.int i, .int j] ∧ Q (.int (if j > i then j else i)) H) xs H Q ∨ rMax K xs H Q) gMax := by
  intro Z H vs ds Q Qd gd rx h k
  match ds, h, rx with
  | [.py (.list xs)], ⟨ns, e, hne, h⟩, rx =>
    obtain ⟨x, rfl, r⟩ := rx.one
    obtain ⟨a, us, rfl, ha, qa⟩ := r.list
    rw [allI_of e] at qa
    rw [qa.ints] at ha
    refine .inr ⟨a, ns, rfl, SqL.of ha, List.length_pos_iff.mpr hne, fun m hm hl => ?_⟩
    obtain ⟨h1, h2⟩ := maxL_spec ns hne
    have e : m = maxL ns := Int.le_antisymm (h2 m hm) (hl _ h1)
    rw [e]
    exact k _ H (.py (.int _)) Ex.refl gd.g (.int _) h
  | [.py (.int i), .py (.int j)], h, rx =>
    obtain ⟨x, y, rfl, r1, r2⟩ := rx.two
    refine .inl ⟨i, j, by rw [r1.int, r2.int], ?_⟩
    have e : (if j > i then j else i) = max i j := by split <;> omega
    rw [e]
    exact k _ H (.py (.int _)) Ex.refl gd.g (.int _) h
theorem rd_min {K : PySem.W.Frag} : CalD b (RE b) (fun xs H Q => (fun xs H Q => ∃ i j, xs = [.int i, .int j] ∧ Q (.int (if j < i then j else i)) H) xs H Q ∨ rMin K xs H Q) gMin := by
  intro Z H vs ds Q Qd gd rx h k
  match ds, h, rx with
  | [.py (.list xs)], ⟨ns, e, hne, h⟩, rx =>
    obtain ⟨x, rfl, r⟩ := rx.one
    obtain ⟨a, us, rfl, ha, qa⟩ := r.list
    rw [allI_of e] at qa
    rw [qa.ints] at ha
    refine .inr ⟨a, ns, rfl, SqL.of ha, List.length_pos_iff.mpr hne, fun m hm hl => ?_⟩
    obtain ⟨h1, h2⟩ := minL_spec ns hne
    have e : m = minL ns := Int.le_antisymm (hl _ h1) (h2 m hm)
    rw [e]
    exact k _ H (.py (.int _)) Ex.refl gd.g (.int _) h
  | [.py (.int i), .py (.int j)], h, rx =>
    obtain ⟨x, y, rfl, r1, r2⟩ := rx.two
    refine .inl ⟨i, j, by rw [r1.int, r2.int], ?_⟩
    have e : (if j < i then j else i) = min i j := by split <;> omega
    rw [e]
    exact k _ H (.py (.int _)) Ex.refl gd.g (.int _) h

/-! ### isinstance of built-in kinds -/
/-- is data of that built-in class? -/
@[simp] def dInt : PyData → Bool
  | .int _ => true | .bool _ => true | _ => false
@[simp] def dBool : PyData → Bool
  | .bool _ => true | _ => false
@[simp] def dStr : PyData → Bool
  | .str _ => true | _ => false
@[simp] def dTuple : PyData → Bool
  | .tuple _ => true | _ => false
@[simp] def dList : PyData → Bool
  | .list _ => true | _ => false
def isK (T : String) (d : PyData) : Option Bool := if T = "int" then some (dInt d) else if T = "bool" then some (dBool d) else if T = "str" then some (dStr d) else if T = "tuple" then some (dTuple d) else if T = "list" then some (dList d) else none
@[simp] theorem isK_int (d : PyData) : isK "int" d = some (dInt d) := rfl
@[simp] theorem isK_bool (d : PyData) : isK "bool" d = some (dBool d) := rfl
@[simp] theorem isK_str (d : PyData) : isK "str" d = some (dStr d) := rfl
@[simp] theorem isK_tuple (d : PyData) : isK "tuple" d = some (dTuple d) := rfl
@[simp] theorem isK_list (d : PyData) : isK "list" d = some (dList d) := rfl
def tyName : PyData → String
  | .none => "NoneType" | .bool _ => "bool" | .int _ => "int" | .str _ => "str" | .list _ => "list" | .tuple _ => "tuple" | .dict _ => "dict"
theorem isi_int (d : PyData) : kitB (tyName d) "int" = some (dInt d) := by cases d <;> (simp only [tyName, dInt]; decide +kernel)
theorem isi_bool (d : PyData) : kitB (tyName d) "bool" = some (dBool d) := by cases d <;> (simp only [tyName, dBool]; decide +kernel)
theorem isi_str (d : PyData) : kitB (tyName d) "str" = some (dStr d) := by cases d <;> (simp only [tyName, dStr]; decide +kernel)
theorem isi_tuple (d : PyData) : kitB (tyName d) "tuple" = some (dTuple d) := by cases d <;> (simp only [tyName, dTuple]; decide +kernel)
theorem isi_list (d : PyData) : kitB (tyName d) "list" = some (dList d) := by cases d <;> (simp only [tyName, dList]; decide +kernel)
theorem isi_of {T : String} {d : PyData} {c : Bool} (h : isK T d = some c) : kitB (tyName d) T = some c := by
  unfold isK at h
  split at h
  · subst T; rw [isi_int]; exact h
  split at h
  · subst T; rw [isi_bool]; exact h
  split at h
  · subst T; rw [isi_str]; exact h
  split at h
  · subst T; rw [isi_tuple]; exact h
  split at h
  · subst T; rw [isi_list]; exact h
  · cases h
theorem tyx_of {K : PySem.W.Frag} {Z : Addr → Prop} {H : Hp} {v : V} {d : PyData} (r : Rq Z H v d) : TyX K H v (.type (tyName d)) := by
  cases r with
  | non => exact .base .non
  | bl k => exact .base (.bl k)
  | int i => exact .base (.int i)
  | str x => exact .base (.str x)
  | lst e n q => exact .base (.lst e)
  | tup e h n q => exact .fTuple e
  | dct e n q => exact .base (.dK e)
@[simp] def gIsi : List D → (D → Prop) → Prop
  | [.py d, .raw (.ty T)], Q => ∃ k, isK T d = some k ∧ Q (.py (.bool k))
  | _, _ => False
theorem rd_isi {K : PySem.W.Frag} : CalD b (RE b) (rIsi K) gIsi := by
  intro Z H vs ds Q Qd gd rx h k
  match ds, h, rx with
  | [.py d, .raw (.ty T)], ⟨c, e, h⟩, rx =>
    obtain ⟨x, y, rfl, r1, r2⟩ := rx.two
    have ey : y = .ty T := by
      rcases r2 with r | ⟨a, e, _, _, q⟩
      · exact r
      · exact q.elim
    subst ey
    exact ⟨x, .ty T, _, .type T, c, rfl, .ty T, tyx_of r1.q, kit_ty (isi_of e), k _ H (.py (.bool c)) Ex.refl gd.g (.bl c) h⟩
/-- the built-in class as a value -/
theorem ve_ty {T : String} {x : Str} (hg : Gl X x) (hm : X.mg x = none) (hv : bootBuiltins x = some (.type T)) (hn : x ≠ "__name__" := by decide) (hd : (x == ("__debug__" : Str)) = false := by decide) : VE X b W (.Name x pos) (vC (.raw (.ty T))) :=
  ve_raw (pe_bltn hg hm hv rfl hn hd)
end
end VL
set_option Elab.async false
set_option linter.all false
set_option maxRecDepth 100000
set_option maxHeartbeats 4000000
namespace VL
open PySem PySem.Spec PyProof.Rows L2

/-- VOk in a running def: H0 the heap at its entry (or a loop's), M what may have been written since -/
structure FOk (b : Bg) (H0 : Hp) (M Zo Z : Addr → Prop) (σ : L2.St) (H : Hp) (ρ : VEnv) : Prop where
  v : VOk b Zo Z σ H ρ
  ext : ∀ a o, H0 a = some o → ¬ b.B a → ¬ M a → H a = some o
  fr : ∀ (i : Nat) (d : D) (a : Addr), ρ[i]? = some (.own d) → σ[i]? = some (some (.ref a)) → M a ∨ H0 a = none

structure VEnds where
  nx : VEnv → Prop
  rt : D → Prop
  bk : VEnv → Prop
  ct : VEnv → Prop
  ex : VEnv → Er → Prop
abbrev VS := VEnv → VEnds → Prop

/-- what the ends of a reading mean over the heap -/
structure Lk (b : Bg) (W : WX) (H0 : Hp) (M Zo : Addr → Prop) (De : VEnds) (D : Ends) : Prop where
  nx : ∀ Z σ H ρ, FOk b H0 M Zo Z σ H ρ → De.nx ρ → D.nx σ H
  rt : ∀ v H d, (∀ a o, H0 a = some o → ¬ b.B a → ¬ M a → H a = some o) → b.G H → Rp b Zo H v d → De.rt d → D.rt v H
  bk : ∀ Z σ H ρ, FOk b H0 M Zo Z σ H ρ → De.bk ρ → D.bk σ H
  ct : ∀ Z σ H ρ, FOk b H0 M Zo Z σ H ρ → De.ct ρ → D.ct σ H
  ex : ∀ c x Z σ H ρ er, FOk b H0 M Zo Z σ H ρ → ErRp b Z H c x er → De.ex ρ er → W c x σ H
def LS (b : Bg) (W : WX) (t : VS) : TS := fun D σ H => ∃ H0 M Zo Z ρ De, FOk b H0 M Zo Z σ H ρ ∧ t ρ De ∧ Lk b W H0 M Zo De D
def VSt (X : Cx) (b : Bg) (W : WX) (st : Stmt) (t : VS) : Prop := PS X st (LS b W t)
def VSs (X : Cx) (b : Bg) (W : WX) (st : List Stmt) (t : VS) : Prop := PSs X st (LS b W t)

section
variable {b : Bg} {W : WX} {H0 : Hp} {M Zo Z : Addr → Prop} {σ : L2.St} {H H' : Hp} {ρ : VEnv} {De : VEnds} {Dn : Ends}
theorem FOk.ex (f : FOk b H0 M Zo Z σ H ρ) (x : Ex b H H') (g : b.G H') : FOk b H0 M Zo Z σ H' ρ := ⟨f.v.ex x g, fun a o e nb nm => x a o (f.ext a o e nb nm) nb, f.fr⟩
/-- the error link of an expression -/
theorem Lk.er (l : Lk b W H0 M Zo De Dn) (f : FOk b H0 M Zo Z σ H ρ) : ∀ c x H' er, Ex b H H' → b.G H' → ErRp b Z H' c x er → De.ex ρ er → W c x σ H' := fun c x H' er x1 g1 r q => l.ex c x Z σ H' ρ er (f.ex x1 g1) r q

/-- the owned addresses but slot i's -/
def zBut (Zo : Addr → Prop) (σ : L2.St) (ρ : VEnv) (i : Nat) : Addr → Prop := fun a => Zo a ∨ ∃ (j : Nat) (e : D), j ≠ i ∧ ρ[j]? = some (.own e) ∧ σ[j]? = some (some (.ref a))
theorem VOk.but (v : VOk b Zo Z σ H ρ) (i : Nat) : ∀ a, zBut Zo σ ρ i a → Z a := fun a z => by
  rcases z with z | ⟨j, e, _, h1, h2⟩
  · exact v.zo a z
  · obtain ⟨c, h3, h4, _⟩ := v.own j e h1
    rw [h2] at h3; cases h3; exact h4
theorem FOk.set (f : FOk b H0 M Zo Z σ H ρ) {i : Nat} {u : V} {d : D} (hi : i < ρ.length) (r : Rp b Z H u d) : FOk b H0 M Zo (zBut Zo σ ρ i) (σ.set i (some u)) H (ρ.set i (.shr d)) := by
  have v := f.v
  have sub := v.but i
  have hiσ : i < σ.length := by rw [← v.len]; exact hi
  have ow : ∀ {j : Nat} {e : D}, (ρ.set i (.shr d))[j]? = some (.own e) → j ≠ i ∧ ρ[j]? = some (.own e) := fun {j e} h => by
    by_cases hj : j = i
    · subst hj
      rw [List.getElem?_set_self hi] at h; cases h
    · rw [List.getElem?_set_ne (Ne.symm hj)] at h
      exact ⟨hj, h⟩
  refine ⟨⟨v.g, v.zb, fun a z => .inl z, fun a z => v.dom a (sub a z), fun a z => ?_, fun j e h => ?_, fun j k e e2 a h1 h2 h3 h4 => ?_, fun j e h => ?_, by simpa using v.len⟩, f.ext, fun j e a h1 h2 => ?_⟩
  · rcases z with z | ⟨j, e, hj, h1, h2⟩
    · exact .inl z
    · exact .inr ⟨j, e, by rw [List.getElem?_set_ne (Ne.symm hj)]; exact h1, by rw [List.getElem?_set_ne (Ne.symm hj)]; exact h2⟩
  · obtain ⟨hj, h⟩ := ow h
    obtain ⟨a, h1, h2, h3, h4⟩ := v.own j e h
    exact ⟨a, by rw [List.getElem?_set_ne (Ne.symm hj)]; exact h1, .inr ⟨j, e, hj, h, h1⟩, h3, h4.mono (fun c z => .inl (sub c z)) (fun _ _ e _ => e) fun _ e => e⟩
  · obtain ⟨hj, h1⟩ := ow h1
    obtain ⟨hk, h2⟩ := ow h2
    rw [List.getElem?_set_ne (Ne.symm hj)] at h3
    rw [List.getElem?_set_ne (Ne.symm hk)] at h4
    exact v.inj j k e e2 a h1 h2 h3 h4
  · by_cases hj : j = i
    · subst hj
      rw [List.getElem?_set_self hi] at h; cases h
      exact ⟨u, List.getElem?_set_self hiσ, r.mono (fun c z => .inl (sub c z)) fun _ _ e _ => e⟩
    · rw [List.getElem?_set_ne (Ne.symm hj)] at h
      obtain ⟨w, h1, h2⟩ := v.shr j e h
      exact ⟨w, by rw [List.getElem?_set_ne (Ne.symm hj)]; exact h1, h2.mono (fun c z => .inl (sub c z)) fun _ _ e _ => e⟩
  · obtain ⟨hj, h1⟩ := ow h1
    rw [List.getElem?_set_ne (Ne.symm hj)] at h2
    exact f.fr j e a h1 h2
/-- a new object given to slot i -/
theorem FOk.setN (f : FOk b H0 M Zo Z σ H ρ) {i : Nat} {u : V} {d : D} (hi : i < ρ.length) (x : Ex b H H') (g : b.G H') (r : Rn b Z H H' u d) : ∃ Z', FOk b H0 M Zo Z' (σ.set i (some u)) H' (ρ.set i (.own d)) := by
  obtain ⟨a, rfl, hn, o⟩ := r
  have v := f.v
  have v' := v.ex x g
  have sub := v.but i
  have nz : ¬ Z a := v.fresh hn
  have hiσ : i < σ.length := by rw [← v.len]; exact hi
  have hz : ∀ c, (zBut Zo σ ρ i c ∨ c = a) → Z c ∨ H c = none := fun c z => z.elim (fun z => .inl (sub c z)) fun e => .inr (by rw [e]; exact hn)
  have ow : ∀ {j : Nat} {e : D}, (ρ.set i (.own d))[j]? = some (.own e) → (j = i ∧ e = d) ∨ (j ≠ i ∧ ρ[j]? = some (.own e)) := fun {j e} h => by
    by_cases hj : j = i
    · subst hj
      rw [List.getElem?_set_self hi] at h; cases h; exact .inl ⟨rfl, rfl⟩
    · rw [List.getElem?_set_ne (Ne.symm hj)] at h
      exact .inr ⟨hj, h⟩
  have na : ∀ (j : Nat) (e : D) (c : Addr), ρ[j]? = some (.own e) → σ[j]? = some (some (.ref c)) → c ≠ a := fun j e c h1 h2 q => by
    obtain ⟨c', h3, h4, _⟩ := v.own j e h1
    rw [h2] at h3; cases h3; rw [q] at h4; exact nz h4
  refine ⟨fun c => zBut Zo σ ρ i c ∨ c = a, ⟨g, v.zb, fun c z => .inl (.inl z), fun c z => ?_, fun c z => ?_, fun j e h => ?_, fun j k e e2 c h1 h2 h3 h4 => ?_, fun j e h => ?_, by simpa using v.len⟩, fun c o e nb nm => x c o (f.ext c o e nb nm) nb, fun j e c h1 h2 => ?_⟩
  · rcases z with z | rfl
    · exact v'.dom c (sub c z)
    · obtain ⟨o', e⟩ := o.at
      rw [e]; simp
  · rcases z with (z | ⟨j, e, hj, h1, h2⟩) | rfl
    · exact .inl z
    · exact .inr ⟨j, e, by rw [List.getElem?_set_ne (Ne.symm hj)]; exact h1, by rw [List.getElem?_set_ne (Ne.symm hj)]; exact h2⟩
    · exact .inr ⟨i, d, List.getElem?_set_self hi, List.getElem?_set_self hiσ⟩
  · rcases ow h with ⟨rfl, rfl⟩ | ⟨hj, h⟩
    · exact ⟨a, List.getElem?_set_self hiσ, .inr rfl, fun z => nz (v.zo _ z), o.mono (fun c z => .inl (z.imp (sub c) id)) (fun _ _ e _ => e) fun _ e => e⟩
    · obtain ⟨c, h1, h2, h3, h4⟩ := v.own j e h
      exact ⟨c, by rw [List.getElem?_set_ne (Ne.symm hj)]; exact h1, .inl (.inr ⟨j, e, hj, h, h1⟩), h3, h4.mono hz (v.keep x) fun o q => x c o q fun z => h3 (v.zb c z)⟩
  · rcases ow h1 with ⟨q1, _⟩ | ⟨hj, p1⟩
    · rcases ow h2 with ⟨q2, _⟩ | ⟨hk, p2⟩
      · rw [q1, q2]
      · rw [q1, List.getElem?_set_self hiσ] at h3; cases h3
        rw [List.getElem?_set_ne (Ne.symm hk)] at h4
        exact absurd rfl (na k e2 _ p2 h4)
    · rw [List.getElem?_set_ne (Ne.symm hj)] at h3
      rcases ow h2 with ⟨q2, _⟩ | ⟨hk, p2⟩
      · rw [q2, List.getElem?_set_self hiσ] at h4; cases h4
        exact absurd rfl (na j e _ p1 h3)
      · rw [List.getElem?_set_ne (Ne.symm hk)] at h4
        exact v.inj j k e e2 c p1 p2 h3 h4
  · by_cases hj : j = i
    · subst hj
      rw [List.getElem?_set_self hi] at h; cases h
    · rw [List.getElem?_set_ne (Ne.symm hj)] at h
      obtain ⟨w, h1, h2⟩ := v.shr j e h
      exact ⟨w, by rw [List.getElem?_set_ne (Ne.symm hj)]; exact h1, h2.mono hz (v.keep x)⟩
  · rcases ow h1 with ⟨rfl, rfl⟩ | ⟨hj, h1⟩
    · rw [List.getElem?_set_self hiσ] at h2; cases h2
      cases q : H0 a with
      | none => exact .inr rfl
      | some u0 =>
        by_cases hb : b.B a
        · exact absurd hn (b.dom _ _ v.g hb)
        · by_cases hm : M a
          · exact .inl hm
          · have := f.ext a u0 q hb hm
            rw [hn] at this; cases this
    · rw [List.getElem?_set_ne (Ne.symm hj)] at h2
      exact f.fr j e c h1 h2
/-- slot i's object is changed -/
theorem FOk.mut (f : FOk b H0 M Zo Z σ H ρ) {i : Nat} {a : Addr} {d d' : D} {o : HO} (hr : ρ[i]? = some (.own d)) (hs : σ[i]? = some (some (.ref a))) (new : Ow b Z (upd H a o) a d') : FOk b H0 M Zo Z σ (upd H a o) (ρ.set i (.own d')) := by
  have v := f.v
  obtain ⟨c, h1, hz, hzo, _⟩ := v.own i d hr
  rw [hs] at h1; cases h1
  have hi : i < ρ.length := (List.getElem?_eq_some_iff.mp hr).1
  have nb : ¬ b.B a := fun z => hzo (v.zb a z)
  have keep : ∀ c o', H c = some o' → ¬ Z c → upd H a o c = some o' := fun c o' e n => by
    rw [upd_ne (fun q => n (by rw [q]; exact hz))]
    exact e
  have ow : ∀ {j : Nat} {e : D}, (ρ.set i (.own d'))[j]? = some (.own e) → (j = i ∧ e = d') ∨ (j ≠ i ∧ ρ[j]? = some (.own e)) := fun {j e} h => by
    by_cases hj : j = i
    · subst hj
      rw [List.getElem?_set_self hi] at h; cases h; exact .inl ⟨rfl, rfl⟩
    · rw [List.getElem?_set_ne (Ne.symm hj)] at h
      exact .inr ⟨hj, h⟩
  have old : ∀ {j : Nat} {e : D}, (ρ.set i (.own d'))[j]? = some (.own e) → ∃ e', ρ[j]? = some (.own e') := fun {j e} h => by
    rcases ow h with ⟨rfl, rfl⟩ | ⟨_, h⟩
    · exact ⟨d, hr⟩
    · exact ⟨e, h⟩
  refine ⟨⟨b.loc H _ (fun c hc => upd_ne fun q => nb (by rw [← q]; exact hc)) v.g, v.zb, v.zo, fun c z => ?_, fun c z => ?_, fun j e h => ?_, fun j k e e2 c h1 h2 h3 h4 => ?_, fun j e h => ?_, by simpa using v.len⟩, fun c o' e nb' nm => ?_, fun j e c h1 h2 => ?_⟩
  · by_cases q : c = a
    · rw [q, upd_same]; simp
    · rw [upd_ne q]; exact v.dom c z
  · rcases v.zi c z with z | ⟨j, e, h1, h2⟩
    · exact .inl z
    · by_cases hj : j = i
      · subst hj
        exact .inr ⟨j, d', List.getElem?_set_self hi, h2⟩
      · exact .inr ⟨j, e, by rw [List.getElem?_set_ne (Ne.symm hj)]; exact h1, h2⟩
  · rcases ow h with ⟨rfl, rfl⟩ | ⟨hj, h⟩
    · exact ⟨a, hs, hz, hzo, new⟩
    · obtain ⟨c, h1, h2, h3, h4⟩ := v.own j e h
      have hca : c ≠ a := fun q => hj (v.inj j i e d a h hr (by rw [← q]; exact h1) hs)
      exact ⟨c, h1, h2, h3, h4.mono (fun _ z => .inl z) keep fun o' q => by rw [upd_ne hca]; exact q⟩
  · obtain ⟨e', h1⟩ := old h1
    obtain ⟨e2', h2⟩ := old h2
    exact v.inj j k e' e2' c h1 h2 h3 h4
  · by_cases hj : j = i
    · subst hj
      rw [List.getElem?_set_self hi] at h; cases h
    · rw [List.getElem?_set_ne (Ne.symm hj)] at h
      obtain ⟨w, h1, h2⟩ := v.shr j e h
      exact ⟨w, h1, h2.mono (fun _ z => .inl z) keep⟩
  · have h := f.ext c o' e nb' nm
    by_cases q : c = a
    · subst q
      rcases f.fr i d c hr hs with z | z
      · exact absurd z nm
      · rw [z] at e; cases e
    · rw [upd_ne q]; exact h
  · obtain ⟨e', h1⟩ := old h1
    exact f.fr j e' c h1 h2
/-- slot i's object is shared from now on -/
@[simp] def frz (i : Nat) (ρ : VEnv) : VEnv := match ρ[i]? with
  | some (.own d) => ρ.set i (.shr d)
  | _ => ρ
theorem FOk.frz (f : FOk b H0 M Zo Z σ H ρ) (i : Nat) : ∃ Z', FOk b H0 M Zo Z' σ H (VL.frz i ρ) := by
  unfold VL.frz
  cases hr : ρ[i]? with
  | none => exact ⟨Z, f⟩
  | some s =>
    cases s with
    | un => exact ⟨Z, f⟩
    | shr d => exact ⟨Z, f⟩
    | own d =>
      have v := f.v
      obtain ⟨a, hs, hz, hzo, ho⟩ := v.own i d hr
      have hi : i < ρ.length := (List.getElem?_eq_some_iff.mp hr).1
      have sub := v.but i
      have na : ¬ zBut Zo σ ρ i a := fun z => by
        rcases z with z | ⟨j, e, hj, h1, h2⟩
        · exact hzo z
        · exact hj (v.inj j i e d a h1 hr h2 hs)
      have rp : Rp b (zBut Zo σ ρ i) H (.ref a) d := ho.rp sub na
      have eσ : σ.set i (some (.ref a)) = σ := by
        apply List.ext_getElem?
        intro j
        by_cases hj : j = i
        · subst hj
          rw [List.getElem?_set_self (List.getElem?_eq_some_iff.mp hs).1, hs]
        · rw [List.getElem?_set_ne (Ne.symm hj)]
      refine ⟨zBut Zo σ ρ i, ?_⟩
      -- as FOk.set, but the value is no longer owned
      have ow : ∀ {j : Nat} {e : D}, (ρ.set i (.shr d))[j]? = some (.own e) → j ≠ i ∧ ρ[j]? = some (.own e) := fun {j e} h => by
        by_cases hj : j = i
        · subst hj
          rw [List.getElem?_set_self hi] at h; cases h
        · rw [List.getElem?_set_ne (Ne.symm hj)] at h
          exact ⟨hj, h⟩
      refine ⟨⟨v.g, v.zb, fun a z => .inl z, fun a z => v.dom a (sub a z), fun c z => ?_, fun j e h => ?_, fun j k e e2 c h1 h2 h3 h4 => ?_, fun j e h => ?_, by simpa using v.len⟩, f.ext, fun j e c h1 h2 => f.fr j e c (ow h1).2 h2⟩
      · rcases z with z | ⟨j, e, hj, h1, h2⟩
        · exact .inl z
        · exact .inr ⟨j, e, by rw [List.getElem?_set_ne (Ne.symm hj)]; exact h1, h2⟩
      · obtain ⟨hj, h⟩ := ow h
        obtain ⟨c, h1, h2, h3, h4⟩ := v.own j e h
        exact ⟨c, h1, .inr ⟨j, e, hj, h, h1⟩, h3, h4.mono (fun c z => .inl (sub c z)) (fun _ _ e _ => e) fun _ e => e⟩
      · exact v.inj j k e e2 c (ow h1).2 (ow h2).2 h3 h4
      · by_cases hj : j = i
        · subst hj
          rw [List.getElem?_set_self hi] at h; cases h
          exact ⟨.ref a, hs, rp⟩
        · rw [List.getElem?_set_ne (Ne.symm hj)] at h
          obtain ⟨w, h1, h2⟩ := v.shr j e h
          exact ⟨w, h1, h2.mono (fun c z => .inl (sub c z)) fun _ _ e _ => e⟩
/-- a value that may leave -/
theorem FOk.out (f : FOk b H0 M Zo Z σ H ρ) {u : V} {d : D} (r : Rp b Z H u d) : Rp b Zo H u d := r.mono (fun c z => .inl (f.v.zo c z)) fun _ _ e _ => e
end

/-! ### statements -/
section
variable {X : Cx} {b : Bg} {W : WX} {e e1 e2 : Expr} {st : Stmt} {sts : List Stmt} {t t1 t2 : VT} {u : VA} {g h : VS} {pos pos' : Pos} {i : Nat} {x : Str}
@[simp] def sNext : VS := fun ρ De => De.nx ρ
@[simp] def sSeq (g h : VS) : VS := fun ρ De => g ρ { De with nx := fun ρ' => h ρ' De }
theorem vs_nil : VSs X b W [] sNext := pss_mono pss_nil fun D σ H ⟨H0, M, Zo, Z, ρ, De, f, q, l⟩ => l.nx Z σ H ρ f q
theorem vs_cons (h1 : VSt X b W st g) (h2 : VSs X b W sts h) : VSs X b W (st :: sts) (sSeq g h) :=
  pss_mono (pss_cons h1 h2) fun D σ H ⟨H0, M, Zo, Z, ρ, De, f, q, l⟩ => ⟨H0, M, Zo, Z, ρ, _, f, q, ⟨fun Z' σ' H' ρ' f' q' => ⟨H0, M, Zo, Z', ρ', De, f', q', l⟩, l.rt, l.bk, l.ct, l.ex⟩⟩
theorem vs_one (h1 : VSt X b W st g) : VSs X b W [st] g := pss_mono (pss_one h1) fun _ _ _ q => q
/-- from here on slot i's object may be shared -/
@[simp] def sFrz (i : Nat) (g : VS) : VS := fun ρ De => g (frz i ρ) De
theorem vs_frz (i : Nat) (h : VSt X b W st g) : VSt X b W st (sFrz i g) := ps_mono h fun D σ H ⟨H0, M, Zo, Z, ρ, De, f, q, l⟩ => by
  obtain ⟨Z', f'⟩ := f.frz i
  exact ⟨H0, M, Zo, Z', _, De, f', q, l⟩
theorem vs_pass : VSt X b W (.Pass pos) sNext := ps_mono ps_pass fun D σ H ⟨H0, M, Zo, Z, ρ, De, f, q, l⟩ => l.nx Z σ H ρ f q
@[simp] def sBrk : VS := fun ρ De => De.bk ρ
@[simp] def sCnt : VS := fun ρ De => De.ct ρ
theorem vs_break : VSt X b W (.Break pos) sBrk := ps_mono ps_break fun D σ H ⟨H0, M, Zo, Z, ρ, De, f, q, l⟩ => l.bk Z σ H ρ f q
theorem vs_continue : VSt X b W (.Continue pos) sCnt := ps_mono ps_continue fun D σ H ⟨H0, M, Zo, Z, ρ, De, f, q, l⟩ => l.ct Z σ H ρ f q
/-- name = value -/
@[simp] def sSet (i : Nat) (t : VT) : VS := fun ρ De => i < ρ.length ∧ t ρ (fun d => De.nx (ρ.set i (.shr d))) (De.ex ρ)
@[simp] def sSetN (i : Nat) (t : VT) : VS := fun ρ De => i < ρ.length ∧ t ρ (fun d => De.nx (ρ.set i (.own d))) (De.ex ρ)
theorem vs_set {te : TE} (hp : PS X (.Assign [.Name x pos'] e pos) (tAsg te (gName i))) (hm : ∀ σ H Q, LE b W (RE b) t σ H Q → te σ H Q) : VSt X b W (.Assign [.Name x pos'] e pos) (sSet i t) :=
  ps_mono hp fun D σ H ⟨H0, M, Zo, Z, ρ, De, f, ⟨hi, q⟩, l⟩ => hm σ H _ ⟨Zo, Z, ρ, _, _, f.v, q, fun v H' d x g r q' => l.nx _ _ H' _ ((f.ex x g).set hi r) q', l.er f⟩
theorem vs_setN {te : TE} (hp : PS X (.Assign [.Name x pos'] e pos) (tAsg te (gName i))) (hm : ∀ σ H Q, LE b W (RN b) t σ H Q → te σ H Q) : VSt X b W (.Assign [.Name x pos'] e pos) (sSetN i t) :=
  ps_mono hp fun D σ H ⟨H0, M, Zo, Z, ρ, De, f, ⟨hi, q⟩, l⟩ => hm σ H _ ⟨Zo, Z, ρ, _, _, f.v, q, fun v H' d x g r q' => by
    obtain ⟨Z', f'⟩ := f.setN hi x g r
    exact l.nx _ _ H' _ f' q', l.er f⟩
theorem vs_asg (hN : X.N.Nodup) (hi : X.N[i]? = some x) (hx : Loc X.env.scope x) (he : VE X b W e t) (hs : swapsWith e (some (.Name x pos')) pos.line X.env = pure false := by rfl)
    (hf : X.fn x = true ∨ X.env.scope.names.lookup x = some .local := by first | exact .inl rfl | exact .inr rfl | assumption) : VSt X b W (.Assign [.Name x pos'] e pos) (sSet i t) :=
  vs_set (ps_set hN hi hx he hs hf) fun _ _ _ q => q
theorem vs_asgN (hN : X.N.Nodup) (hi : X.N[i]? = some x) (hx : Loc X.env.scope x) (he : VN X b W e t) (hs : swapsWith e (some (.Name x pos')) pos.line X.env = pure false := by rfl)
    (hf : X.fn x = true ∨ X.env.scope.names.lookup x = some .local := by first | exact .inl rfl | exact .inr rfl | assumption) : VSt X b W (.Assign [.Name x pos'] e pos) (sSetN i t) :=
  vs_setN (ps_set hN hi hx he hs hf) fun _ _ _ q => q
@[simp] def sExpr (t : VT) : VS := fun ρ De => t ρ (fun _ => De.nx ρ) (De.ex ρ)
theorem vs_expr (he : VE X b W e t) (hs : swapsWith e none pos.line X.env = pure false := by rfl) : VSt X b W (.Expr e pos) (sExpr t) :=
  ps_mono (ps_expr he hs) fun D σ H ⟨H0, M, Zo, Z, ρ, De, f, q, l⟩ => ⟨Zo, Z, ρ, _, _, f.v, q, fun v H' d x g r q' => l.nx _ _ H' _ (f.ex x g) q', l.er f⟩
@[simp] def sRet (t : VT) : VS := fun ρ De => t ρ De.rt (De.ex ρ)
theorem vs_ret (he : VE X b W e t) : VSt X b W (.Return (some e) pos) (sRet t) :=
  ps_mono (ps_ret he) fun D σ H ⟨H0, M, Zo, Z, ρ, De, f, q, l⟩ => ⟨Zo, Z, ρ, _, _, f.v, q, fun v H' d x g r q' => l.rt v H' d (f.ex x g).ext g ((f.ex x g).out r) q', l.er f⟩
@[simp] def sRetN : VS := fun _ De => De.rt (.py .none)
theorem vs_retN : VSt X b W (.Return none pos) sRetN := ps_mono ps_retN fun D σ H ⟨H0, M, Zo, Z, ρ, De, f, q, l⟩ => l.rt _ H (.py .none) f.ext f.v.g .non q
@[simp] def sIf (c : VB) (g h : VS) : VS := fun ρ De => c ρ (fun k => if k = true then g ρ De else h ρ De) (De.ex ρ)
theorem vs_if {c : Expr} {tc : VB} {xs ys : List Stmt} (hc : VTe X b W c tc) (h1 : VSs X b W xs g) (h2 : VSs X b W ys h) : VSt X b W (.If c xs ys pos) (sIf tc g h) :=
  ps_mono (ps_if hc h1 h2) fun D σ H ⟨H0, M, Zo, Z, ρ, De, f, q, l⟩ => ⟨Zo, Z, ρ, _, _, f.v, q, fun k H' x g q' => by
    cases k with
    | true => exact ⟨H0, M, Zo, Z, ρ, De, f.ex x g, q', l⟩
    | false => exact ⟨H0, M, Zo, Z, ρ, De, f.ex x g, q', l⟩, l.er f⟩
/-- name op= value -/
@[simp] def sAug (i : Nat) (g : D → D → (D → Prop) → Prop) (t : VT) : VS := fun ρ De => ∃ d, ρ[i]? = some (.shr d) ∧ t ρ (fun y => g d y fun z => De.nx (ρ.set i (.shr z))) (De.ex ρ)
theorem vs_aug {op : Operator} {r : R2} {gg : D → D → (D → Prop) → Prop} (hN : X.N.Nodup) (hi : X.N[i]? = some x) (hx : Loc X.env.scope x) (he : VE X b W e t) (ho : OpR X (inplaceOp op) r) (hd : OpD b (RE b) r gg)
    (hf : X.fn x = true ∨ X.env.scope.names.lookup x = some .local := by first | exact .inl rfl | exact .inr rfl | assumption) : VSt X b W (.AugAssign (.Name x pos') op e pos) (sAug i gg t) :=
  ps_mono (ps_aug (ti := r) hN hi hx he ho hf) fun D σ H ⟨H0, M, Zo, Z, ρ, De, f, ⟨d, e1, q⟩, l⟩ => by
    obtain ⟨v, h1, h2⟩ := f.v.shr i d e1
    have hl : i < ρ.length := (List.getElem?_eq_some_iff.mp e1).1
    refine ⟨v, h1, Zo, Z, ρ, _, _, f.v, q, fun w H' d2 x g r2 q' => ?_, l.er f⟩
    have f' := f.ex x g
    refine hd Z H' v w d d2 _ _ f'.v.gd (.inl (f.v.rp x h2)) (.inl r2) q' fun w3 H3 d3 x3 g3 r3 q3 => ?_
    exact l.nx _ _ H3 _ ((f'.ex x3 g3).set hl r3) q3

/-! ### loops -/
/-- what an iterator gives: the items, one a turn, while what stood at H outside of Y stands -/
structure Wk (b : Bg) (Y Z : Addr → Prop) (H : Hp) (J : It) (ds : List D) : Prop where
  go : ∀ (k : Nat) (d : D) (H2 : Hp), ds[k]? = some d → (∀ a o, H a = some o → ¬ Y a → H2 a = some o) → b.G H2 → J.go k H2 ∧ ∀ v H3, J.yld k H2 v H3 → Ex b H2 H3 ∧ b.G H3 ∧ ∀ Z2 : Addr → Prop, (∀ a, Z2 a → Z a ∨ H a = none) → (∀ a, Z2 a → H2 a ≠ none) → Rp b Z2 H3 v d
  stop : ∀ (k : Nat) (H2 : Hp), ds.length = k → (∀ a o, H a = some o → ¬ Y a → H2 a = some o) → J.stop k H2
abbrev VIt := VEnv → (List D → Prop) → (Er → Prop) → Prop
def LI (b : Bg) (W : WX) (Y : (Addr → Prop) → Addr → Prop) (t : VIt) : TI := fun σ H R => ∃ Zo Z ρ Qd Ed, VOk b Zo Z σ H ρ ∧ t ρ Qd Ed ∧
  (∀ J H' ds, Ex b H H' → b.G H' → Wk b (Y Z) Z H' J ds → Qd ds → R J H') ∧ ∀ c x H' er, Ex b H H' → b.G H' → ErRp b Z H' c x er → Ed er → W c x σ H'
/-- for a loop: what is owned may change; for a block: nothing but the zone -/
def VI (X : Cx) (b : Bg) (W : WX) (tg iter : Expr) (t : VIt) : Prop := PI X tg iter (LI b W (fun Z => Z) t)
def VIb (X : Cx) (b : Bg) (W : WX) (tg iter : Expr) (t : VIt) : Prop := PI X tg iter (LI b W (fun _ => b.B) t)
/-- a target -/
abbrev VTg := D → VEnv → (VEnv → Prop) → Prop
abbrev VTgs := List D → VEnv → (VEnv → Prop) → Prop
/-- the slots but those at js are as they were -/
structure Same (js : List Nat) (σ σ' : L2.St) (ρ ρ' : VEnv) : Prop where
  len : σ'.length = σ.length
  out : ∀ j, j ∉ js → σ'[j]? = σ[j]?
  env : ∀ j, j ∉ js → ρ'[j]? = ρ[j]?
theorem Same.refl {js : List Nat} {σ : L2.St} {ρ : VEnv} : Same js σ σ ρ ρ := ⟨rfl, fun _ _ => rfl, fun _ _ => rfl⟩
theorem Same.trans {js ks : List Nat} {σ σ1 σ2 : L2.St} {ρ ρ1 ρ2 : VEnv} (h : Same js σ σ1 ρ ρ1) (k : Same ks σ1 σ2 ρ1 ρ2) : Same (js ++ ks) σ σ2 ρ ρ2 :=
  ⟨k.len.trans h.len, fun j hj => (k.out j fun m => hj (List.mem_append_right _ m)).trans (h.out j fun m => hj (List.mem_append_left _ m)), fun j hj => (k.env j fun m => hj (List.mem_append_right _ m)).trans (h.env j fun m => hj (List.mem_append_left _ m))⟩
def LG (b : Bg) (js : List Nat) (t : VTg) : TG := fun v σ H Q => ∃ H0 M Zo Z ρ d Qd, FOk b H0 M Zo Z σ H ρ ∧ Rp b Z H v d ∧ t d ρ Qd ∧ ∀ Z' σ' ρ', (∀ a, Z' a → Z a) → Same js σ σ' ρ ρ' → FOk b H0 M Zo Z' σ' H ρ' → Qd ρ' → Q σ' H
def VG (X : Cx) (b : Bg) (tg : Expr) (js : List Nat) (t : VTg) : Prop := PG X tg (LG b js t)
theorem pg_mono {e : Expr} {t t' : TG} (h : PG X e t) (m : ∀ v σ H Q, t' v σ H Q → t v σ H Q) : PG X e t' := ⟨fun pins s σ H v u Q I r q => h.run pins s σ H v u Q I r (m v σ H Q q)⟩
@[simp] def tgName (i : Nat) : VTg := fun d ρ Q => i < ρ.length ∧ Q (ρ.set i (.shr d))
theorem vg_name (hN : X.N.Nodup) (hi : X.N[i]? = some x) (hx : Loc X.env.scope x) (hf : X.fn x = true ∨ X.env.scope.names.lookup x = some .local := by first | exact .inl rfl | exact .inr rfl | assumption) : VG X b (.Name x pos) [i] (tgName i) :=
  pg_mono (pg_name hN hi hx hf) fun v σ H Q ⟨H0, M, Zo, Z, ρ, d, Qd, f, r, ⟨hl, q⟩, k⟩ => k _ _ _ (f.v.but i) ⟨List.length_set .., fun j hj => List.getElem?_set_ne fun e => hj (by rw [e]; exact List.mem_singleton.mpr rfl), fun j hj => List.getElem?_set_ne fun e => hj (by rw [e]; exact List.mem_singleton.mpr rfl)⟩ (f.set hl r) q
/-- several targets -/
def LGs (b : Bg) (js : List Nat) (t : VTgs) : TGs := fun v σ H Q => ∃ H0 M Zo Z ρ d Qd, FOk b H0 M Zo Z σ H ρ ∧ Rps b Z H v d ∧ t d ρ Qd ∧ ∀ Z' σ' ρ', (∀ a, Z' a → Z a) → Same js σ σ' ρ ρ' → FOk b H0 M Zo Z' σ' H ρ' → Qd ρ' → Q σ' H
def VGs (X : Cx) (b : Bg) (tg : List Expr) (js : List Nat) (t : VTgs) : Prop := PGs X tg (LGs b js t)
theorem pgs_mono {e : List Expr} {t t' : TGs} (h : PGs X e t) (m : ∀ v σ H Q, t' v σ H Q → t v σ H Q) : PGs X e t' := ⟨fun pins s σ H v u Q I r q => h.run pins s σ H v u Q I r (m v σ H Q q)⟩
@[simp] def tgNil : VTgs
  | [], ρ, Q => Q ρ
  | _, _, _ => False
@[simp] def tgCons (t : VTg) (u : VTgs) : VTgs
  | d :: r, ρ, Q => t d ρ fun ρ' => u r ρ' Q
  | _, _, _ => False
theorem vgs_nil : VGs X b [] [] tgNil := pgs_mono pgs_nil fun v σ H Q ⟨H0, M, Zo, Z, ρ, d, Qd, f, r, q, k⟩ => by
  cases r with
  | nil => exact ⟨rfl, k Z σ ρ (fun _ z => z) .refl f q⟩
  | cons _ _ => exact False.elim q
theorem vgs_cons {tg : Expr} {tgs : List Expr} {js ks : List Nat} {t : VTg} {u : VTgs} (h1 : VG X b tg js t) (h2 : VGs X b tgs ks u)
    (hs : (assignEach (tg :: tgs) X.env).map (·.2) = assign tg X.env :: (assignEach tgs X.env).map (·.2) := by rfl) : VGs X b (tg :: tgs) (js ++ ks) (tgCons t u) :=
  pgs_mono (pgs_cons h1 h2 hs) fun v σ H Q ⟨H0, M, Zo, Z, ρ, d, Qd, f, r, q, k⟩ => by
    cases r with
    | nil => exact False.elim q
    | @cons _ d1 _ dr r1 rr => exact ⟨_, _, rfl, H0, M, Zo, Z, ρ, d1, _, f, r1, q, fun Z' σ' ρ' sub sm f' q' => ⟨H0, M, Zo, Z', ρ', dr, Qd, f', rr.mono (fun a z => .inl (sub a z)) (fun _ _ e _ => e), q', fun Z2 σ2 ρ2 sub2 sm2 f2 q2 => k Z2 σ2 ρ2 (fun a z => sub a (sub2 a z)) (sm.trans sm2) f2 q2⟩⟩
@[simp] def tgTup (n : Nat) (u : VTgs) : VTg
  | .py (.tuple ps), ρ, Q => ps.length = n ∧ u (ps.map D.py) ρ Q
  | _, _, _ => False
theorem tgTup_ex {n : Nat} {u : VTgs} : ∀ {d : D} {ρ : VEnv} {Q : VEnv → Prop}, tgTup n u d ρ Q → ∃ ps, d = .py (.tuple ps) ∧ ps.length = n ∧ u (ps.map D.py) ρ Q
  | .py (.tuple ps), _, _, h => ⟨ps, rfl, h⟩
theorem vg_tup {tgs : List Expr} {k n : Nat} {js : List Nat} {u : VTgs} (hc : X.calm = true) (h : VGs X b tgs js u) (hn : (assignEach tgs X.env).length = n := by rfl) (hst : (assignEach tgs X.env).findIdx? (·.1) = none := by rfl) : VG X b (.Tuple tgs k pos) js (tgTup n u) :=
  pg_mono (pg_tup hc h hn hst) fun v σ H Q ⟨H0, M, Zo, Z, ρ, d, Qd, f, r, hh, k⟩ => by
    obtain ⟨ps, e, hl, q⟩ := tgTup_ex hh
    subst e
    obtain ⟨a, o, xs, rfl, ha, ho, na, qa⟩ := Rb.tuple (b := b) (.inl r)
    exact ⟨a, xs, rfl, SqT.th ha, by rw [qa.length]; exact hl, H0, M, Zo, Z, ρ, _, Qd, f, qa.to, q, k⟩
/-- target = value -/
@[simp] def sAsg (t : VT) (g : VTg) : VS := fun ρ De => t ρ (fun d => g d ρ De.nx) (De.ex ρ)
theorem vs_asgT {tg : Expr} {js : List Nat} {g : VTg} (he : VE X b W e t) (hg : VG X b tg js g) (hs : swapsWithSole [tg] e pos.line X.env = pure false := by rfl) (hw : swappedStores [tg] e X.env = pure none := by rfl)
    (h1 : (assignEach [tg] X.env).map (·.2) = [assign tg X.env] := by rfl) : VSt X b W (.Assign [tg] e pos) (sAsg t g) :=
  ps_mono (ps_asg he hg hs hw h1) fun D σ H ⟨H0, M, Zo, Z, ρ, De, f, q, l⟩ => ⟨Zo, Z, ρ, _, _, f.v, q, fun v H' d x g r q' =>
    ⟨H0, M, Zo, Z, ρ, d, _, f.ex x g, r, q', fun Z' σ' ρ' _ _ f' q2 => l.nx Z' σ' H' ρ' f' q2⟩, l.er f⟩
end
end VL
set_option Elab.async false
set_option linter.all false
set_option maxRecDepth 100000
set_option maxHeartbeats 4000000
namespace VL
open PySem PySem.Spec PyProof.Rows L2

/-! ### values some of which are new -/
inductive Rm (b : Bg) (Y : Addr → Prop) (H H' : Hp) : List V → List (Bool × D) → List Addr → Prop
  | nil : Rm b Y H H' [] [] []
  | sh {v : V} {d : D} {vs : List V} {ms : List (Bool × D)} {N : List Addr} : Rp b Y H' v d → Rm b Y H H' vs ms N → Rm b Y H H' (v :: vs) ((false, d) :: ms) N
  | nw {a : Addr} {d : D} {vs : List V} {ms : List (Bool × D)} {N : List Addr} : H a = none → a ∉ N → Ow b Y H' a d → Rm b Y H H' vs ms N → Rm b Y H H' (.ref a :: vs) ((true, d) :: ms) (a :: N)
abbrev VAm := VEnv → (List (Bool × D) → Prop) → (Er → Prop) → Prop
def LAm (b : Bg) (W : WX) (t : VAm) : TA := fun σ H Q => ∃ Zo Z ρ Qd Ed, VOk b Zo Z σ H ρ ∧ t ρ Qd Ed ∧
  (∀ vs H' ms N, Ex b H H' → b.G H' → Rm b (fun c => Z c ∨ c ∈ N) H H' vs ms N → Qd ms → Q vs H') ∧ ∀ c x H' er, Ex b H H' → b.G H' → ErRp b Z H' c x er → Ed er → W c x σ H'
def VMs (X : Cx) (b : Bg) (W : WX) (es : List Expr) (t : VAm) : Prop := PA X es (LAm b W t)
@[simp] def mNil : VAm := fun _ Q _ => Q []
@[simp] def mCons (k : Bool) (t : VT) (u : VAm) : VAm := fun ρ Q E => t ρ (fun d => u ρ (fun ds => Q ((k, d) :: ds)) E) E

section
variable {b : Bg} {Y Y' : Addr → Prop} {H H' H1 : Hp} {vs : List V} {ms : List (Bool × D)} {N : List Addr}
theorem Rm.sub (h : ∀ c, Y' c → Y c) : ∀ {vs : List V} {ms : List (Bool × D)} {N : List Addr}, Rm b Y H H' vs ms N → Rm b Y' H H' vs ms N
  | _, _, _, .nil => .nil
  | _, _, _, .sh r t => .sh (r.mono (fun c z => .inl (h c z)) fun _ _ e _ => e) (Rm.sub h t)
  | _, _, _, .nw hn hm o t => .nw hn hm (o.mono (fun c z => .inl (h c z)) (fun _ _ e _ => e) fun _ e => e) (Rm.sub h t)
theorem Rm.back (h : ∀ c, H1 c = none → H c = none) : ∀ {vs : List V} {ms : List (Bool × D)} {N : List Addr}, Rm b Y H1 H' vs ms N → Rm b Y H H' vs ms N
  | _, _, _, .nil => .nil
  | _, _, _, .sh r t => .sh r (Rm.back h t)
  | _, _, _, .nw hn hm o t => .nw (h _ hn) hm o (Rm.back h t)
theorem Rm.new : ∀ {vs : List V} {ms : List (Bool × D)} {N : List Addr}, Rm b Y H H' vs ms N → ∀ c ∈ N, H c = none ∧ H' c ≠ none
  | _, _, _, .nil, _, h => nomatch h
  | _, _, _, .sh _ t, c, h => Rm.new t c h
  | _, _, _, .nw hn _ o t, c, h => by
    rcases List.mem_cons.mp h with rfl | h
    · obtain ⟨u, e⟩ := o.at
      exact ⟨hn, by rw [e]; simp⟩
    · exact Rm.new t c h
theorem none_back (g : b.G H1) (x : Ex b H H1) (c : Addr) (h : H1 c = none) : H c = none := by
  cases q : H c with
  | none => rfl
  | some u =>
    by_cases hb : b.B c
    · exact absurd h (b.dom _ _ g hb)
    · rw [x c u q hb] at h; cases h
end
section
variable {b : Bg} {Zo Z : Addr → Prop} {σ : L2.St} {H H' : Hp} {ρ : VEnv}
/-- new addresses held apart by an outer one -/
theorem VOk.many (v : VOk b Zo Z σ H ρ) (x : Ex b H H') (g : b.G H') {N : List Addr} (hN : ∀ c ∈ N, H c = none ∧ H' c ≠ none) : VOk b (fun c => Zo c ∨ c ∈ N) (fun c => Z c ∨ c ∈ N) σ H' ρ := by
  have v' := v.ex x g
  have hz : ∀ c, (Z c ∨ c ∈ N) → Z c ∨ H c = none := fun c z => z.imp id fun m => (hN c m).1
  refine ⟨g, fun c z => .inl (v.zb c z), fun c z => z.imp (v.zo c) id, fun c z => z.elim (v'.dom c) fun m => (hN c m).2, fun c z => z.elim (fun z => (v.zi c z).imp .inl id) fun m => .inl (.inr m), fun i d e => ?_, v.inj, fun i d e => ?_, v.len⟩
  · obtain ⟨a, h1, h2, h3, h4⟩ := v.own i d e
    refine ⟨a, h1, .inl h2, fun z => z.elim h3 fun m => v.dom a h2 (hN a m).1, h4.mono hz (v.keep x) fun o q => x a o q fun z => h3 (v.zb a z)⟩
  · obtain ⟨u, h1, h2⟩ := v.shr i d e
    exact ⟨u, h1, h2.mono hz (v.keep x)⟩
end

section
variable {X : Cx} {b : Bg} {W : WX} {e e1 e2 : Expr} {es : List Expr} {t t1 t2 : VT} {u : VAm} {pos : Pos}
theorem vm_nil : VMs X b W [] mNil := pa_mono pa_nil fun σ H Q ⟨Zo, Z, ρ, Qd, Ed, v, q, l, _⟩ => l [] H [] [] Ex.refl v.g .nil q
theorem vm_sh (h : VE X b W e t) (k : VMs X b W es u) (hs : starEach (e :: es) X.env = (false, eval e X.env) :: starEach es X.env := by rfl) : VMs X b W (e :: es) (mCons false t u) :=
  pa_mono (pa_cons h k hs) fun σ H Q ⟨Zo, Z, ρ, Qd, Ed, v, q, l, m⟩ => ⟨Zo, Z, ρ, _, Ed, v, q, fun x H1 d x1 g1 r1 q1 =>
    ⟨Zo, Z, ρ, _, Ed, v.ex x1 g1, q1, fun xs H2 ms N x2 g2 r2 q2 => l (x :: xs) H2 ((false, d) :: ms) N (x1.trans x2) g2
        (.sh (r1.mono (fun c z => z.imp id fun m => (r2.new c m).1) ((v.ex x1 g1).keep x2)) (r2.back (none_back g1 x1))) q2,
      fun c y H2 er x2 g2 r2 q2 => m c y H2 er (x1.trans x2) g2 r2 q2⟩, m⟩
theorem vm_nw (h : VN X b W e t) (k : VMs X b W es u) (hs : starEach (e :: es) X.env = (false, eval e X.env) :: starEach es X.env := by rfl) : VMs X b W (e :: es) (mCons true t u) :=
  pa_mono (pa_cons h k hs) fun σ H Q ⟨Zo, Z, ρ, Qd, Ed, v, q, l, m⟩ => ⟨Zo, Z, ρ, _, Ed, v, q, fun x H1 d x1 g1 ⟨a, ex, hn, o⟩ q1 => by
    subst ex
    obtain ⟨oa, ea⟩ := o.at
    have h1 : H1 a ≠ none := by rw [ea]; simp
    have nb : ¬ b.B a := fun z => v.fresh hn (v.zo a (v.zb a z))
    have v1 := v.many x1 g1 (N := [a]) fun c hc => by rw [List.mem_singleton.mp hc]; exact ⟨hn, h1⟩
    refine ⟨_, _, ρ, _, Ed, v1, q1, fun xs H2 ms N x2 g2 r2 q2 => ?_, fun c y H2 er x2 g2 r2 q2 => m c y H2 er (x1.trans x2) g2 ?_ q2⟩
    · have hN : a ∉ N := fun hm => h1 (r2.new a hm).1
      refine l (.ref a :: xs) H2 ((true, d) :: ms) (a :: N) (x1.trans x2) g2 (.nw hn hN ?_ ((r2.sub fun c z => ?_).back (none_back g1 x1))) q2
      · refine o.mono (fun c z => ?_) (fun c oc ec nc => x2 c oc ec fun z => nc (.inl (v.zo c (v.zb c z)))) fun oc ec => x2 a oc ec nb
        rcases z with z | z
        · exact .inl (.inl z)
        · rcases List.mem_cons.mp z with rfl | z
          · exact .inl (.inr rfl)
          · exact .inr (r2.new c z).1
      · rcases z with z | z
        · exact .inl (.inl z)
        · rcases List.mem_cons.mp z with rfl | z
          · exact .inl (.inr (List.mem_singleton.mpr rfl))
          · exact .inr z
    · obtain ⟨h3, h4⟩ := r2
      refine ⟨h3, h4.imp id ?_⟩
      rintro ⟨c, ys, e1, e2, e3, e4⟩
      exact ⟨c, ys, e1, e2, fun z => e3 (.inl z), e4.mono (fun c z => .inl (.inl z)) fun _ _ e _ => e⟩, m⟩
end

/-! ### a, b, .. = values -/
def setA : List Nat → List V → L2.St → L2.St
  | i :: is, v :: vs, σ => setA is vs (σ.set i (some v))
  | _, _, σ => σ
@[simp] def setE : List Nat → List (Bool × D) → VEnv → VEnv
  | i :: is, (k, d) :: ms, ρ => setE is ms (ρ.set i (if k = true then .own d else .shr d))
  | _, _, ρ => ρ
section
variable {b : Bg} {W : WX} {H0 : Hp} {M Zo Z : Addr → Prop} {σ : L2.St} {H H' : Hp} {ρ : VEnv} {De : VEnds} {Dn : Ends}
theorem FOk.many (f : FOk b H0 M Zo Z σ H ρ) (x : Ex b H H') (g : b.G H') {N : List Addr} (hN : ∀ c ∈ N, H c = none ∧ H' c ≠ none) : FOk b H0 M (fun c => Zo c ∨ c ∈ N) (fun c => Z c ∨ c ∈ N) σ H' ρ :=
  ⟨f.v.many x g hN, fun a o e nb nm => x a o (f.ext a o e nb nm) nb, f.fr⟩
/-- an address held apart becomes slot i's own -/
theorem FOk.adopt {a : Addr} {N : List Addr} {d : D} {i : Nat} (f : FOk b H0 M (fun c => Zo c ∨ c ∈ a :: N) Z σ H ρ) (hzb : ∀ c, b.B c → Zo c) (hN : a ∉ N) (hz : ¬ Zo a) (hf : M a ∨ H0 a = none) (hi : i < ρ.length) (o : Ow b Z H a d) :
    ∃ Z', FOk b H0 M (fun c => Zo c ∨ c ∈ N) Z' (σ.set i (some (.ref a))) H (ρ.set i (.own d)) ∧ ∀ c, Z' c → Z c := by
  have v := f.v
  have hiσ : i < σ.length := by rw [← v.len]; exact hi
  have hza : Z a := v.zo a (.inr List.mem_cons_self)
  have low : ∀ c, (Zo c ∨ c ∈ N) → (Zo c ∨ c ∈ a :: N) := fun c z => z.imp id (List.mem_cons_of_mem _)
  let Z' : Addr → Prop := fun c => (zBut (fun c => Zo c ∨ c ∈ N) σ ρ i c) ∨ c = a
  have sub : ∀ c, Z' c → Z c := fun c z => by
    rcases z with (z | ⟨j, e, _, h1, h2⟩) | rfl
    · exact v.zo c (low c z)
    · obtain ⟨c', h3, h4, _⟩ := v.own j e h1
      rw [h2] at h3; cases h3; exact h4
    · exact hza
  have na : ∀ (j : Nat) (e : D) (c : Addr), ρ[j]? = some (.own e) → σ[j]? = some (some (.ref c)) → c ≠ a := fun j e c h1 h2 q => by
    obtain ⟨c', h3, _, h4, _⟩ := v.own j e h1
    rw [h2] at h3; cases h3; rw [q] at h4
    exact h4 (.inr List.mem_cons_self)
  have ow : ∀ {j : Nat} {e : D}, (ρ.set i (.own d))[j]? = some (.own e) → (j = i ∧ e = d) ∨ (j ≠ i ∧ ρ[j]? = some (.own e)) := fun {j e} h => by
    by_cases hj : j = i
    · subst hj
      rw [List.getElem?_set_self hi] at h; cases h; exact .inl ⟨rfl, rfl⟩
    · rw [List.getElem?_set_ne (Ne.symm hj)] at h
      exact .inr ⟨hj, h⟩
  refine ⟨Z', ⟨⟨v.g, fun c z => .inl (hzb c z), fun c z => .inl (.inl z), fun c z => v.dom c (sub c z), fun c z => ?_, fun j e h => ?_, fun j k e e2 c h1 h2 h3 h4 => ?_, fun j e h => ?_, by simpa using v.len⟩, f.ext, fun j e c h1 h2 => ?_⟩, sub⟩
  · rcases z with (z | ⟨j, e, hj, h1, h2⟩) | rfl
    · exact .inl z
    · exact .inr ⟨j, e, by rw [List.getElem?_set_ne (Ne.symm hj)]; exact h1, by rw [List.getElem?_set_ne (Ne.symm hj)]; exact h2⟩
    · exact .inr ⟨i, d, List.getElem?_set_self hi, List.getElem?_set_self hiσ⟩
  · rcases ow h with ⟨q1, q2⟩ | ⟨hj, p1⟩
    · rw [q1, q2]
      exact ⟨a, List.getElem?_set_self hiσ, .inr rfl, fun z => z.elim hz hN, o.mono (fun c z => .inl (sub c z)) (fun _ _ e _ => e) fun _ e => e⟩
    · obtain ⟨c, h1, h2, h3, h4⟩ := v.own j e p1
      exact ⟨c, by rw [List.getElem?_set_ne (Ne.symm hj)]; exact h1, .inl (.inr ⟨j, e, hj, p1, h1⟩), fun z => h3 (low c z), h4.mono (fun c z => .inl (sub c z)) (fun _ _ e _ => e) fun _ e => e⟩
  · rcases ow h1 with ⟨q1, _⟩ | ⟨hj, p1⟩
    · rcases ow h2 with ⟨q2, _⟩ | ⟨hk, p2⟩
      · rw [q1, q2]
      · rw [q1, List.getElem?_set_self hiσ] at h3; cases h3
        rw [List.getElem?_set_ne (Ne.symm hk)] at h4
        exact absurd rfl (na k e2 _ p2 h4)
    · rw [List.getElem?_set_ne (Ne.symm hj)] at h3
      rcases ow h2 with ⟨q2, _⟩ | ⟨hk, p2⟩
      · rw [q2, List.getElem?_set_self hiσ] at h4; cases h4
        exact absurd rfl (na j e _ p1 h3)
      · rw [List.getElem?_set_ne (Ne.symm hk)] at h4
        exact v.inj j k e e2 c p1 p2 h3 h4
  · by_cases hj : j = i
    · rw [hj, List.getElem?_set_self hi] at h; cases h
    · rw [List.getElem?_set_ne (Ne.symm hj)] at h
      obtain ⟨w, h1, h2⟩ := v.shr j e h
      exact ⟨w, by rw [List.getElem?_set_ne (Ne.symm hj)]; exact h1, h2.mono (fun c z => .inl (sub c z)) fun _ _ e _ => e⟩
  · rcases ow h1 with ⟨q1, _⟩ | ⟨hj, p1⟩
    · rw [q1, List.getElem?_set_self hiσ] at h2; cases h2
      exact hf
    · rw [List.getElem?_set_ne (Ne.symm hj)] at h2
      exact f.fr j e c p1 h2
/-- all of them, one after another -/
theorem FOk.setAll (hb : ∀ c, b.B c → Zo c) : ∀ (is : List Nat) (vs : List V) (ms : List (Bool × D)) (N : List Addr) (Z : Addr → Prop) (σ : L2.St) (ρ : VEnv), FOk b H0 M (fun c => Zo c ∨ c ∈ N) Z σ H' ρ → Rm b Z H H' vs ms N → (∀ c ∈ N, ¬ Zo c ∧ (M c ∨ H0 c = none)) →
    ms.length = is.length → (∀ i ∈ is, i < ρ.length) → ∃ Z', FOk b H0 M Zo Z' (VL.setA is vs σ) H' (setE is ms ρ) := by
  intro is
  induction is with
  | nil =>
    intro vs ms N Z σ ρ f r hN hl hi
    cases r with
    | nil =>
      refine ⟨Z, ?_⟩
      have e : (fun c => Zo c ∨ c ∈ ([] : List Addr)) = Zo := by funext c; simp
      rw [e] at f
      exact f
    | sh _ _ => simp at hl
    | nw _ _ _ _ => simp at hl
  | cons i is ih =>
    intro vs ms N Z σ ρ f r hN hl hi
    cases r with
    | nil => simp at hl
    | sh r t =>
      have f1 := f.set (hi i List.mem_cons_self) r
      exact ih _ _ _ _ _ _ f1 (t.sub (f.v.but i)) hN (by simpa using hl) fun j hj => by rw [List.length_set]; exact hi j (List.mem_cons_of_mem _ hj)
    | nw hn hm o t =>
      obtain ⟨Z1, f1, sub⟩ := f.adopt hb hm (hN _ List.mem_cons_self).1 (hN _ List.mem_cons_self).2 (hi i List.mem_cons_self) o
      exact ih _ _ _ _ _ _ f1 (t.sub sub) (fun c hc => hN c (List.mem_cons_of_mem _ hc)) (by simpa using hl) fun j hj => by rw [List.length_set]; exact hi j (List.mem_cons_of_mem _ hj)
theorem FOk.par (f : FOk b H0 M Zo Z σ H ρ) {is : List Nat} {vs : List V} {ms : List (Bool × D)} {N : List Addr} (x : Ex b H H') (g : b.G H') (r : Rm b (fun c => Z c ∨ c ∈ N) H H' vs ms N) (hl : ms.length = is.length) (hi : ∀ i ∈ is, i < ρ.length) : ∃ Z', FOk b H0 M Zo Z' (VL.setA is vs σ) H' (setE is ms ρ) := by
  refine FOk.setAll f.v.zb is vs ms N _ σ ρ (f.many x g r.new) r (fun c hc => ⟨fun z => f.v.dom c (f.v.zo c z) (r.new c hc).1, ?_⟩) hl hi
  have hn := (r.new c hc).1
  cases q : H0 c with
  | none => exact .inr rfl
  | some u =>
    by_cases hb : b.B c
    · exact absurd hn (b.dom _ _ f.v.g hb)
    · by_cases hm : M c
      · exact .inl hm
      · have := f.ext c u q hb hm
        rw [hn] at this; cases this
end
section
variable {X : Cx} {b : Bg} {W : WX} {e e1 e2 e3 : Expr} {es : List Expr} {t t1 t2 : VT} {u : VAm} {pos : Pos}
@[simp] def sPar (is : List Nat) (u : VAm) : VS := fun ρ De => (∀ i ∈ is, i < ρ.length) ∧ u ρ (fun ms => ms.length = is.length ∧ De.nx (setE is ms ρ)) (De.ex ρ)
theorem Rm.len {Y : Addr → Prop} {H H' : Hp} : ∀ {vs : List V} {ms : List (Bool × D)} {N : List Addr}, Rm b Y H H' vs ms N → vs.length = ms.length
  | _, _, _, .nil => rfl
  | _, _, _, .sh _ t => congrArg (· + 1) (Rm.len t)
  | _, _, _, .nw _ _ _ t => congrArg (· + 1) (Rm.len t)
theorem vs_par2 {i j : Nat} {x y : Str} {px py pt : Pos} {kt k2 pt2} (hc : X.calm = true) (hN : X.N.Nodup) (hi : X.N[i]? = some x) (hj : X.N[j]? = some y) (hij : i ≠ j)
    (hx : X.env.scope.names.lookup x = some .local) (hy : X.env.scope.names.lookup y = some .local) (ha : VMs X b W [e1, e2] u)
    (hw : swappedStores [.Tuple [.Name x px, .Name y py] kt pt] (.Tuple [e1, e2] k2 pt2) X.env = pure (some [x, y]))
    (hs : swapsWithSole [.Tuple [.Name x px, .Name y py] kt pt] (.Tuple [e1, e2] k2 pt2) pos.line X.env = pure false := by rfl) :
    VSt X b W (.Assign [.Tuple [.Name x px, .Name y py] kt pt] (.Tuple [e1, e2] k2 pt2) pos) (sPar [i, j] u) :=
  ps_mono (ps_par hc hN hi hj hij hx hy ha hw hs) fun D σ H ⟨H0, M, Zo, Z, ρ, De, f, ⟨hl, q⟩, l⟩ => ⟨Zo, Z, ρ, _, _, f.v, q, fun vs H' ms N x g r ⟨hm, q'⟩ => by
    obtain ⟨Z', f'⟩ := f.par (is := [i, j]) x g r hm hl
    match vs, r.len.trans hm with
    | [v, w], _ => exact ⟨v, w, rfl, l.nx Z' _ H' _ f' q'⟩, l.er f⟩
theorem vs_par3 {i j k : Nat} {x y z : Str} {px py pz pt : Pos} {kt k2 pt2} (hc : X.calm = true) (hN : X.N.Nodup) (hi : X.N[i]? = some x) (hj : X.N[j]? = some y) (hk : X.N[k]? = some z) (hij : i ≠ j) (hik : i ≠ k) (hjk : j ≠ k)
    (hx : X.env.scope.names.lookup x = some .local) (hy : X.env.scope.names.lookup y = some .local) (hz : X.env.scope.names.lookup z = some .local) (ha : VMs X b W [e1, e2, e3] u)
    (hw : swappedStores [.Tuple [.Name x px, .Name y py, .Name z pz] kt pt] (.Tuple [e1, e2, e3] k2 pt2) X.env = pure (some [x, y, z]))
    (hs : swapsWithSole [.Tuple [.Name x px, .Name y py, .Name z pz] kt pt] (.Tuple [e1, e2, e3] k2 pt2) pos.line X.env = pure false := by rfl) :
    VSt X b W (.Assign [.Tuple [.Name x px, .Name y py, .Name z pz] kt pt] (.Tuple [e1, e2, e3] k2 pt2) pos) (sPar [i, j, k] u) :=
  ps_mono (ps_par3 hc hN hi hj hk hij hik hjk hx hy hz ha hw hs) fun D σ H ⟨H0, M, Zo, Z, ρ, De, f, ⟨hl, q⟩, l⟩ => ⟨Zo, Z, ρ, _, _, f.v, q, fun vs H' ms N x g r ⟨hm, q'⟩ => by
    obtain ⟨Z', f'⟩ := f.par (is := [i, j, k]) x g r hm hl
    match vs, r.len.trans hm with
    | [v, w, y], _ => exact ⟨v, w, y, rfl, l.nx Z' _ H' _ f' q'⟩, l.er f⟩
/-- the targets' reading: names -/
def gNames : List Nat → TGs
  | [] => gNil
  | i :: is => gCons (gName i) (gNames is)
theorem gNames_set : ∀ {is : List Nat} {vs : List V} {σ : L2.St} {H : Hp} {Q : L2.St → Hp → Prop}, vs.length = is.length → Q (VL.setA is vs σ) H → gNames is vs σ H Q
  | [], [], _, _, _, _, q => ⟨rfl, q⟩
  | i :: is, v :: vs, σ, H, Q, h, q => ⟨v, vs, rfl, gNames_set (by simpa using h) q⟩
/-- by way of a tuple -/
theorem vs_parT {is : List Nat} {tgs : List Expr} {kt k2} {pt pt2 : Pos} (hc : X.calm = true) (hg : PGs X tgs (gNames is)) (ha : VMs X b W es u) (hn : (assignEach tgs X.env).length = is.length := by rfl) (hst : (assignEach tgs X.env).findIdx? (·.1) = none := by rfl)
    (hz : is.length ≤ 1000 := by decide) (hs : swapsWithSole [.Tuple tgs kt pt] (.Tuple es k2 pt2) pos.line X.env = pure false := by rfl) (hw : swappedStores [.Tuple tgs kt pt] (.Tuple es k2 pt2) X.env = pure none := by rfl)
    (h1 : (assignEach [.Tuple tgs kt pt] X.env).map (·.2) = [assign (.Tuple tgs kt pt) X.env] := by rfl) :
    VSt X b W (.Assign [.Tuple tgs kt pt] (.Tuple es k2 pt2) pos) (sPar is u) :=
  ps_mono (ps_asg (pe_tupF ha) (pg_tup hc hg hn hst) hs hw h1) fun D σ H ⟨H0, M, Zo, Z, ρ, De, f, ⟨hl, q⟩, l⟩ => ⟨Zo, Z, ρ, _, _, f.v, q, fun vs H' ms N x g r ⟨hm, q'⟩ => by
    obtain ⟨Z', f'⟩ := f.par (is := is) x g r hm hl
    have hv : vs.length = is.length := r.len.trans hm
    refine ⟨Nat.le_of_lt (small1000 (by rw [hv]; exact hz)), fun p o hp ho => ⟨p, vs, rfl, SqT.th upd_same, hv, gNames_set hv ?_⟩⟩
    exact l.nx Z' _ _ _ (f'.ex (Ex.new hp) (Bg.new g hp)) q', l.er f⟩
end
end VL
set_option Elab.async false
set_option linter.all false
set_option maxRecDepth 100000
set_option maxHeartbeats 4000000
namespace VL
open PySem PySem.Spec PyProof.Rows L2

/-! ### sources: a list, a tuple, a text -/
inductive Kd where
  | l (a : Addr) | t (a : Addr) | s (x : Str) (k : Tok)
def Kd.val : Kd → Value
  | .l a => .ref a | .t a => .ref a | .s x k => .str x k
def Kd.obj : Kd → Obj
  | .l a => { cls := .type "list_iterator", data := .fields #[.ref a, .int 0 0] }
  | .t a => { cls := .type "tuple_iterator", data := .fields #[.ref a, .int 0 0] }
  | .s x k => { cls := .type (strIterType x), data := .fields #[.str x k, .int 0 0] }
/-- the walker at it stands at item i -/
def Kd.At : Kd → Addr → Nat → Heap → Prop
  | .l a, it, i, h => h.IsListIter it a i
  | .t a, it, i, h => h.IsTupleIter it a i
  | .s x k, it, i, h => h.IsStrIter it (strIterType x) x k i
def Kd.ad : Kd → List Addr
  | .l a => [a] | .t a => [a] | .s _ _ => []
def signs (x : Str) : List V := x.cps.toList.map fun c => V.str (mkS [c])
def Kd.gives (K : PySem.W.Frag) (H : Hp) : Kd → List V → Prop
  | .l a, xs => SqL K H a xs
  | .t a, xs => SqT K H a xs
  | .s x _, xs => xs = signs x
theorem Kd.begins {X : Cx} {pins : List (Addr × Obj)} {σ : L2.St} {H : Hp} {s : Shared} (I : Inv X pins σ H s) {k : Kd} {xs : List V} (g : k.gives X.K H xs) : ∃ Hs, Begins k.val k.obj Hs ∧ Hs s.heap ∧ ∀ b ∈ k.ad, b < s.heap.objs.size := by
  cases k with
  | l a =>
    obtain ⟨its, _, p, _⟩ := I.list g
    exact ⟨_, begins_list a its.toArray, p.isList, fun b hb => by rw [List.mem_singleton.mp hb]; exact p.lt⟩
  | t a =>
    obtain ⟨its, _, p, _⟩ := I.tuple g
    obtain ⟨o, ho, _⟩ := id p
    exact ⟨_, begins_tuple a its.toArray, p, fun b hb => by rw [List.mem_singleton.mp hb]; exact Heap.lt_size ho⟩
  | s x t => exact ⟨_, begins_text x t, trivial, fun b hb => by cases hb⟩
theorem Kd.start {k : Kd} {it : Addr} {h : Heap} (e : h.get? it = some k.obj) : k.At it 0 h := by
  cases k with
  | l a => exact ⟨_, e, rfl, rfl⟩
  | t a => exact ⟨_, e, rfl, rfl⟩
  | s x t => exact ⟨_, e, rfl, rfl⟩
theorem Kd.free {k : Kd} : k.obj.isFreed = false := by cases k <;> rfl
theorem Kd.At.at {k : Kd} {it : Addr} {i : Nat} {h h' : Heap} (st : k.At it i h) (e : ∀ o, h.get? it = some o → h'.get? it = some o) : k.At it i h' := by
  cases k with
  | l a => exact Heap.IsListIter.at st e
  | t a => exact Heap.IsTupleIter.at st e
  | s x t => obtain ⟨o, ho, r⟩ := st; exact ⟨o, e o ho, r⟩
theorem Kd.At.rec' {k : Kd} {it : Addr} {i : Nat} {h : Heap} (st : k.At it i h) : ∃ o vs, h.get? it = some o ∧ o.data = .fields vs := by
  cases k with
  | l a => obtain ⟨o, ho, _, hd⟩ := st; exact ⟨o, _, ho, hd⟩
  | t a => obtain ⟨o, ho, _, hd⟩ := st; exact ⟨o, _, ho, hd⟩
  | s x t => obtain ⟨o, ho, _, hd⟩ := st; exact ⟨o, _, ho, hd⟩
theorem signs_get {x : Str} {i : Nat} {c : Nat} (h : x.cps[i]? = some c) : (signs x)[i]? = some (V.str (mkS [c])) := by
  unfold signs
  rw [List.getElem?_map, Array.getElem?_toList, h]
  rfl
theorem vals_at : ∀ {xs : List V} {its : List Value} {i : Nat} {u : Value}, Vals xs its → its[i]? = some u → ∃ y, xs[i]? = some y ∧ RelV y u
  | _, _, _, _, .nil, e => by simp at e
  | _, _, 0, _, .cons r _, e => by simp at e; subst e; exact ⟨_, rfl, r⟩
  | _, _, i + 1, _, .cons _ t, e => by
    obtain ⟨y, h1, h2⟩ := vals_at (i := i) t (by simpa using e)
    exact ⟨y, by simpa using h1, h2⟩
/-- what a source draws -/
theorem Kd.draws {X : Cx} {pins : List (Addr × Obj)} {σ : L2.St} {H : Hp} {s : Shared} (I : Inv X pins σ H s) (hc : X.calm = true) {k : Kd} {xs : List V} (g : k.gives X.K H xs) (it : Addr) (hne : it ∉ k.ad) :
    ∃ (P : Nat → Value → Prop) (St : Nat → Heap → Prop), Draws X.prog X.w X.A.in1 it (it :: k.ad) xs.length P St ∧ (∀ i, k.At it i s.heap → St i s.heap) ∧ (∀ i h, St i h → k.At it i h) ∧ ∀ i v, P i v → ∃ y, xs[i]? = some y ∧ RelV y v := by
  have hh : X.A.in1.handled = none := I.ok.hd hc
  cases k with
  | l a =>
    obtain ⟨its, r, p, _⟩ := I.list g
    have hn : a ≠ it := fun e => hne (by rw [e]; exact List.mem_singleton.mpr rfl)
    have D := Draws.list (prog := X.prog) (w := X.w) (A := X.A.in1) hh it a hn its.toArray
    rw [List.size_toArray, ← r.length] at D
    exact ⟨_, _, D, fun i st => ⟨st, p.isList⟩, fun i h st => st.1, fun i v hv => vals_at r (by simpa using hv)⟩
  | t a =>
    obtain ⟨its, r, p, _⟩ := I.tuple g
    have hn : a ≠ it := fun e => hne (by rw [e]; exact List.mem_singleton.mpr rfl)
    have D := Draws.tuple (prog := X.prog) (w := X.w) (A := X.A.in1) hh it a hn its.toArray
    rw [List.size_toArray, ← r.length] at D
    exact ⟨_, _, D, fun i st => ⟨st, p⟩, fun i h st => st.1, fun i v hv => vals_at r (by simpa using hv)⟩
  | s x t =>
    obtain rfl : xs = signs x := g
    have D := Draws.text (prog := X.prog) (w := X.w) (A := X.A.in1) hh it x t
    have e : (signs x).length = x.cps.size := by unfold signs; simp
    rw [← e] at D
    refine ⟨_, _, D, fun i st => st, fun i h st => st, fun i v hv => ?_⟩
    obtain ⟨c, u, h1, rfl⟩ := hv
    exact ⟨_, signs_get h1, u, rfl⟩
theorem Kd.gives_inj {X : Cx} {pins : List (Addr × Obj)} {σ : L2.St} {H : Hp} {s : Shared} (I : Inv X pins σ H s) {k : Kd} {xs ys : List V} (g : k.gives X.K H xs) (g' : k.gives X.K H ys) : xs = ys := by
  cases k with
  | l a => exact I.list_inj g g'
  | t a => exact I.tuple_inj g g'
  | s x t => exact g.trans g'.symm

/-! ### a walk over a source -/
/-- what a walk of items gives -/
def Itk (K : PySem.W.Frag) (k : Kd) : It :=
  ⟨fun i H => ∃ xs x, k.gives K H xs ∧ xs[i]? = some x, fun i H x H' => H' = H ∧ ∀ xs, k.gives K H xs → xs[i]? = some x, fun i H => ∃ xs, k.gives K H xs ∧ xs.length ≤ i⟩
theorem Turn.imp {P : Program} {w : World} {K : PySem.W.Frag} {tg : Expr} {J J' : It} {fp : List Addr} {it : Addr} {tn : Nat → Heap → Prop} (T : Turn P w K tg J fp it tn) (h1 : ∀ i H, J'.go i H → J.go i H) (h2 : ∀ i H x H', J'.go i H → J.yld i H x H' → J'.yld i H x H') (h3 : ∀ i H, J'.stop i H → J.stop i H) : Turn P w K tg J' fp it tn where
  mem := T.mem
  obj := T.obj
  keep := T.keep
  item := fun X hP hw hK hc i pins s σ H E I hf st hg => thn (T.item X hP hw hK hc i pins s σ H E I hf st (h1 i H hg)) fun r s1 ⟨u, hr, q⟩ => ⟨u, hr, thn q fun _ s2 ⟨x, H', I', rx, y, st', f'⟩ => ⟨x, H', I', rx, h2 i H x H' hg y, st', f'⟩⟩
  done := fun X hP hw hK hc i pins s σ H E I hf st hg => T.done X hP hw hK hc i pins s σ H E I hf st (h3 i H hg)
  self := T.self
theorem turn_kd {P : Program} {w : World} {K : PySem.W.Frag} {tg : Expr} (k : Kd) (it : Addr) : Turn P w K tg (Itk K k) [it] it (fun i h => k.At it i h) := by
  cases k with
  | l a => exact Turn.imp (turn_list a it) (fun i H ⟨xs, x, h⟩ => ⟨xs, x, h⟩) (fun i H x H' _ h => h) fun i H h => h
  | t a => exact Turn.imp (turn_tuple a it) (fun i H ⟨xs, x, h⟩ => ⟨xs, x, h⟩) (fun i H x H' _ h => h) fun i H h => h
  | s x t =>
    have e : (signs x).length = x.cps.size := by unfold signs; simp
    refine Turn.imp (turn_str it x t (strIterType x) (by unfold strIterType; split <;> simp)) (fun i H ⟨xs, y, h, hy⟩ => ?_) (fun i H y H' _ h => ?_) fun i H ⟨xs, h, hl⟩ => ?_
    · obtain rfl : xs = signs x := h
      obtain ⟨hlt, _⟩ := List.getElem?_eq_some_iff.mp hy
      rw [e] at hlt
      exact hlt
    · obtain ⟨h1, c, hcx, hy⟩ := h
      refine ⟨h1, fun xs h => ?_⟩
      obtain rfl : xs = signs x := h
      rw [hy]
      exact signs_get hcx
    · obtain rfl : xs = signs x := h
      rw [e] at hl
      exact hl
/-- a source's value -/
inductive Src (K : PySem.W.Frag) (H : Hp) : V → List V → (Kd → Prop) → Prop
  | l {a : Addr} {xs : List V} : SqL K H a xs → Src K H (.ref a) xs fun k => k = .l a
  | t {a : Addr} {xs : List V} : SqT K H a xs → Src K H (.ref a) xs fun k => k = .t a
  | s {x : Str} : Src K H (.str x) (signs x) fun k => ∃ t, k = .s x t
theorem Src.kd {K : PySem.W.Frag} {H : Hp} {v : V} {xs : List V} {C : Kd → Prop} (h : Src K H v xs C) {u : Value} (r : RelV v u) : ∃ k, C k ∧ k.val = u ∧ k.gives K H xs := by
  cases h with
  | l h => cases r; exact ⟨_, rfl, rfl, h⟩
  | t h => cases r; exact ⟨_, rfl, rfl, h⟩
  | s => obtain ⟨t, rfl⟩ := r; exact ⟨_, ⟨t, rfl⟩, rfl, rfl⟩
section
variable {X : Cx} {tg e e2 e3 : Expr} {p pos : Pos}
def iSrc (K : PySem.W.Frag) (te : TE) : TI := fun σ H R => te σ H fun x H1 => ∃ xs C, Src K H1 x xs C ∧ ∀ k, C k → R (Itk K k) H1
theorem pi_src {te : TE} (he : PE X e te) : PI X tg e (iSrc X.K te) := by
  refine ⟨fun pins s σ H R I h => ?_⟩
  refine thn (he.run pins s σ H _ I h) fun v s1 ⟨y, H1, I1, r1, xs, C, sx, q⟩ => ?_
  obtain ⟨k, hk, rfl, g⟩ := sx.kd r1
  obtain ⟨Hs, B, hs, _⟩ := k.begins I1 g
  exact B.iter _ _ _ _ _ _ hs (pi_one (tk := s1.toks) I1 _ (turn_kd k _) (Kd.start (Heap.get?_push_size _ B.free)) (q k hk))
end

/-! ### enumerate -/
def Iek (K : PySem.W.Frag) (k : Kd) : It :=
  ⟨fun i H => ∃ xs x, k.gives K H xs ∧ xs[i]? = some x, fun i H v H' => ∃ T o x, v = .ref T ∧ H T = none ∧ o.dict = none ∧ H' = upd H T (HO.th o [.int (i : Nat), x]) ∧ ∀ xs, k.gives K H xs → xs[i]? = some x, fun i H => ∃ xs, k.gives K H xs ∧ xs.length = i⟩
theorem lt_of_get {h : Heap} {b : Addr} {o : Obj} (e : h.get? b = some o) : b < h.objs.size := Heap.lt_size e
theorem turn_ek {P : Program} {w : World} {K : PySem.W.Frag} {elts : List Expr} {kk : Nat} {tpos : Pos} (k : Kd) {en it : Addr} (hne : en ≠ it) (h1 : en ∉ k.ad) (h2 : it ∉ k.ad) :
    Turn P w K (.Tuple elts kk tpos) (Iek K k) [en, it] en (fun i h => (∃ old, IsEnum h en it ((i : Nat) : Int) old) ∧ k.At it i h) where
  mem := List.mem_cons_self
  obj := fun i h ⟨⟨old, he⟩, hi⟩ b hb => by
    rcases List.mem_cons.mp hb with rfl | hb
    · exact ⟨_, he, nofun⟩
    · rw [List.mem_singleton.mp hb]
      obtain ⟨o, vs, ho, hd⟩ := hi.rec'
      exact ⟨o, ho, fun v q => by rw [hd] at q; cases q⟩
  keep := fun i h h' ⟨⟨old, he⟩, hi⟩ kp => ⟨⟨old, kp en List.mem_cons_self _ he⟩, hi.at fun o q => kp it (by simp) o q⟩
  item := by
    rintro X rfl rfl rfl hc i pins s σ H E I hf ⟨⟨old, he⟩, hi⟩ ⟨xs, x, g, hx⟩
    obtain ⟨Pd, St, D, s1, s2, s3⟩ := k.draws I hc g it h2
    have hlt : i < xs.length := (List.getElem?_eq_some_iff.mp hx).1
    have hel := lt_of_get he
    obtain ⟨oi, vi, hoi, _⟩ := hi.rec'
    have hil := lt_of_get hoi
    refine wpAny_pyNext_enum_itemD D he (s1 i hi) hlt hne (by simp [hne, h1]) fun u h' tk hP ho st' hT hsz hk => ?_
    obtain ⟨y, hy, ru⟩ := s3 i u hP
    obtain rfl : x = y := Option.some.inj (hx.symm.trans hy)
    refine ⟨_, rfl, wpAny_letOwnedTupleGo_enum (s := { s with heap := h', toks := tk + 1 }) ho fun h'' he' sb => ?_⟩
    have hT2 := (sb.2 s.heap.objs.size (Nat.ne_of_gt hel)).trans hT
    have new : ObjOk X.prog X.w (upd H s.heap.objs.size (HO.th (tob [.int i tk, u]) [.int (i : Nat), x])) h'' s.heap.objs.size (HO.th (tob [.int i tk, u]) [.int (i : Nat), x]) :=
      th_ok (by show 2 ≤ sizeLine; decide) (.cons ⟨_, rfl⟩ (.cons ru .nil)) hT2
    have I1 : Inv X pins σ (upd H s.heap.objs.size (HO.th (tob [.int i tk, u]) [.int (i : Nat), x])) { s with heap := h'', toks := tk + 1 } :=
      I.turnedNew (ch := [en, it]) (fun b ob hb q => by
        have n1 : b ≠ en := fun z => hb (by simp [z])
        have n2 : b ≠ it := fun z => hb (by simp [z])
        exact (sb.2 b n1).trans (hk b ob n1 n2 q)) hf (Nat.le_refl _) new
    refine ⟨.ref s.heap.objs.size, _, I1, rfl, ⟨_, _, x, rfl, I.hok.fresh (Nat.le_refl _), rfl, rfl, fun ys hy => by rw [k.gives_inj I hy g]; exact hx⟩, ⟨⟨u, ?_⟩, (s2 _ _ st').at fun o q => (sb.2 it (Ne.symm hne)).trans q⟩, fun b hb => ?_⟩
    · have e1 : ((i + 1 : Nat) : Int) = (i : Int) + 1 := by omega
      rw [e1]; exact he'
    · have hb' : b < s.heap.objs.size := by
        rcases List.mem_cons.mp hb with rfl | hb
        · exact hel
        · rw [List.mem_singleton.mp hb]; exact hil
      rw [upd_ne (Nat.ne_of_lt hb')]
      exact (hf b hb).1
  done := by
    rintro X rfl rfl rfl hc i pins s σ H E I hf ⟨⟨old, he⟩, hi⟩ ⟨xs, g, hl⟩
    obtain ⟨Pd, St, D, s1, s2, s3⟩ := k.draws I hc g it h2
    obtain ⟨f0, f1, f2, f3, f4, f5⟩ := hf it (by simp)
    subst hl
    exact wpAny_pyNext_enum_endD D he (s1 _ hi) fun h' eb => ⟨rfl, I.turned (t' := s.toks) (fun b o hb q => eb b o hb q) f0 f1 f3 f4 f5⟩
  self := fun A i s Q E ⟨⟨_, he⟩, _⟩ h => wpAny_pyIter_enum he h
theorem enum_meets1 {v : Value} {o : Obj} {Hs : Heap → Prop} (B : Begins v o Hs) :
    Meets (Builtin.«enumerate.__new__» ⟨[.type "enumerate", v], []⟩) (fun _ R s => Hs s.heap ∧
      R (.ok (.ret (.ref (s.heap.push o).objs.size))) { s with heap := (s.heap.push o).push { cls := .type "enumerate", data := .fields #[.none, .bool false, .ref s.heap.objs.size, rawInt 0, .none, .none] } }) :=
  .of_wp fun prog w A R s hh => by
    obtain ⟨hp, gn, dr, tk, os⟩ := s
    obtain ⟨hv, h⟩ := hh
    have hsub := sub_enumerate
    have itv : ∀ {A' : Around} {E : Value → Shared → Prop} {Q : Value → Shared → Prop}, Q (.ref hp.objs.size) ⟨hp.push o, gn, dr, tk, os⟩ → wpAny (model prog w) A' (pyIter v) Q E ⟨hp, gn, dr, tk, os⟩ :=
      fun q => B.iter prog w _ _ ⟨hp, gn, dr, tk, os⟩ _ hv q
    wp_walk using itv
    refine wpAny_stack_any fun fr => wpAny_pure ?_
    split
    · rename_i c0 _ _ _ _ _
      cases (c0 == Value.type "enumerate") <;> (wp_walk using itv; exact ⟨_, rfl, h⟩)
    · wp_walk using itv
      exact ⟨_, rfl, h⟩
section
variable {prog : Program} {w : World} {A : Around} {E : Value → Shared → Prop} {s : Shared}
theorem enum_one {v : Value} {o : Obj} {Hs : Heap → Prop} {Q : Value → Shared → Prop} (B : Begins v o Hs) (hv : Hs s.heap)
    (h : ∀ h', IsEnum h' (s.heap.objs.size + 1) s.heap.objs.size 0 .none → h'.get? s.heap.objs.size = some o → (∀ b ob, s.heap.get? b = some ob → h'.get? b = some ob) → Q (.ref (s.heap.objs.size + 1)) { s with heap := h' }) :
    wpAny (model prog w) A (call (.type "enumerate") [v]) Q E s := by
  refine callType_new F.called_enumerate (by decide) (F.typeCall_enumerate_1 _) (F.newCall_enumerate_1 _) (fun obj => F.args_object_init_2 obj _) F.entry_enumerate_new (enum_meets1 B) ⟨hv, ?_⟩
  have z1 : (s.heap.push o).objs.size = s.heap.objs.size + 1 := Heap.size_push ..
  have g1 := Heap.get?_push_size (s.heap.push o) (o := { cls := .type "enumerate", data := .fields #[.none, .bool false, .ref s.heap.objs.size, rawInt 0, .none, .none] }) rfl
  show _ ∧ _
  rw [z1] at g1 ⊢
  exact ⟨⟨_, g1, rfl⟩, h _ g1 (Heap.get?_push_of_some _ (Heap.get?_push_size _ B.free)) fun b ob e => Heap.get?_push_of_some _ (Heap.get?_push_of_some _ e)⟩
end
section
variable {X : Cx} {tg e e2 e3 : Expr} {elts : List Expr} {kk : Nat} {p pos tpos : Pos}
def iEnumS (K : PySem.W.Frag) (ta : TA) : TI := fun σ H R => ta σ H fun vs H1 => ∃ x xs C, vs = [x] ∧ Src K H1 x xs C ∧ ∀ k, C k → R (Iek K k) H1
theorem pi_enumS {ta : TA} (hg : Gl X "enumerate") (hm : X.mg "enumerate" = none) (ha : PA X [e] ta) (hs : starEach [e] X.env = [(false, eval e X.env)] := by rfl) : PI X (.Tuple elts kk tpos) (.Call (.Name "enumerate" p) [e] [] pos) (iEnumS X.K ta) := by
  refine ⟨fun pins s σ H R I h => ?_⟩
  refine Call_ (ld_blt I hg hm boot_enumerate (PyProof.Rows.callWith_type1 (thn (ha.run pos pins s σ H _ I h) fun us s1 ⟨vs, H1, I1, r1, x, xs, C, ev, sx, q⟩ => ?_) hs rfl))
  subst ev
  obtain ⟨u, rfl, ru⟩ := vals1 r1
  obtain ⟨k, hk, rfl, g⟩ := sx.kd ru
  obtain ⟨Hs, B, hst, hlt⟩ := k.begins I1 g
  refine enum_one B hst fun h' he hit kp => wpAny_pyIter_enum he ?_
  have old : ∀ b ∈ k.ad, b ≠ s1.heap.objs.size ∧ b ≠ s1.heap.objs.size + 1 := fun b hb => by
    have z : (b : Nat) < s1.heap.objs.size := hlt b hb
    exact ⟨Nat.ne_of_lt z, Nat.ne_of_lt (Nat.lt_succ_of_lt z)⟩
  refine ⟨s1.heap.objs.size + 1, [s1.heap.objs.size + 1, s1.heap.objs.size], _, _, H1, rfl, I1.kept (t' := s1.toks) kp, turn_ek k (Nat.succ_ne_self _) (fun hm => (old _ hm).2 rfl) (fun hm => (old _ hm).1 rfl), ⟨⟨.none, he⟩, Kd.start hit⟩, fun b hb => ?_, q k hk⟩
  have hle : s1.heap.objs.size ≤ b := by
    rcases List.mem_cons.mp hb with z | z
    · rw [z]; exact Nat.le_succ _
    · rw [List.mem_singleton.mp z]; exact Nat.le_refl _
  exact I1.fpOk hle (I1.hok.fresh hle)
end
end VL
set_option Elab.async false
set_option linter.all false
set_option maxRecDepth 100000
set_option maxHeartbeats 4000000
namespace VL
open PySem PySem.Spec PyProof.Rows L2

/-! ### zip of two, of three sources -/
def Iz2 (K : PySem.W.Frag) (k1 k2 : Kd) : It :=
  ⟨fun i H => ∃ xs ys x y, k1.gives K H xs ∧ k2.gives K H ys ∧ xs[i]? = some x ∧ ys[i]? = some y,
    fun i H v H' => ∃ T o x y, v = .ref T ∧ H T = none ∧ o.dict = none ∧ H' = upd H T (HO.th o [x, y]) ∧ (∀ xs, k1.gives K H xs → xs[i]? = some x) ∧ ∀ ys, k2.gives K H ys → ys[i]? = some y,
    fun i H => ∃ xs ys, k1.gives K H xs ∧ k2.gives K H ys ∧ i ≤ xs.length ∧ i ≤ ys.length ∧ (i = xs.length ∨ i = ys.length)⟩
/-- the addresses of a zip's own objects -/
structure Zp2 (k1 k2 : Kd) (z TI TO i1 i2 : Addr) : Prop where
  sep : ZipSep2 z TI TO i1 i2 (i1 :: k1.ad) (i2 :: k2.ad)
  n1 : i1 ∉ k1.ad
  n2 : i2 ∉ k2.ad
theorem turn_z2 {P : Program} {w : World} {K : PySem.W.Frag} {elts : List Expr} {kk : Nat} {tpos : Pos} (k1 k2 : Kd) {z TI TO i1 i2 : Addr} (S : Zp2 k1 k2 z TI TO i1 i2) :
    Turn P w K (.Tuple elts kk tpos) (Iz2 K k1 k2) [z, TI, TO, i1, i2] z (fun i h => IsZip h z TI TO .none ∧ IsTupOf2 h TI (.ref i1) (.ref i2) ∧ (∃ x y, IsTupOf2 h TO x y) ∧ k1.At i1 i h ∧ k2.At i2 i h) where
  mem := List.mem_cons_self
  obj := fun i h ⟨hz, hI, ⟨x, y, hO⟩, a1, a2⟩ b hb => by
    obtain ⟨o1, v1, e1, d1⟩ := a1.rec'
    obtain ⟨o2, v2, e2, d2⟩ := a2.rec'
    simp only [List.mem_cons, List.not_mem_nil, or_false] at hb
    rcases hb with rfl | rfl | rfl | rfl | rfl
    · exact ⟨_, hz, nofun⟩
    · exact ⟨_, hI, nofun⟩
    · exact ⟨_, hO, nofun⟩
    · exact ⟨o1, e1, fun v q => by rw [d1] at q; cases q⟩
    · exact ⟨o2, e2, fun v q => by rw [d2] at q; cases q⟩
  keep := fun i h h' ⟨hz, hI, ⟨x, y, hO⟩, a1, a2⟩ kp => ⟨kp z (by simp) _ hz, kp TI (by simp) _ hI, ⟨x, y, kp TO (by simp) _ hO⟩, a1.at fun o => kp i1 (by simp) o, a2.at fun o => kp i2 (by simp) o⟩
  item := by
    rintro X rfl rfl rfl hc i pins s σ H E I hf ⟨hz, hI, ⟨x0, y0, hO⟩, a1, a2⟩ ⟨xs, ys, x, y, g1, g2, hx, hy⟩
    obtain ⟨P1, S1, D1, in1, out1, at1⟩ := k1.draws I hc g1 i1 S.n1
    obtain ⟨P2, S2, D2, in2, out2, at2⟩ := k2.draws I hc g2 i2 S.n2
    have hl1 : i < xs.length := (List.getElem?_eq_some_iff.mp hx).1
    have hl2 : i < ys.length := (List.getElem?_eq_some_iff.mp hy).1
    obtain ⟨o1, v1, e1, d1⟩ := a1.rec'
    obtain ⟨o2, v2, e2, d2⟩ := a2.rec'
    have zl := lt_of_get hz
    have zlt : ∀ c ∈ [z, TI, TO, i1, i2], c < s.heap.objs.size := fun c hc => by
      simp only [List.mem_cons, List.not_mem_nil, or_false] at hc
      rcases hc with rfl | rfl | rfl | rfl | rfl
      · exact zl
      · exact lt_of_get hI
      · exact lt_of_get hO
      · exact lt_of_get e1
      · exact lt_of_get e2
    refine wpAny_pyNext_zipD2_item S.sep D1 D2 hz hI hO (in1 i a1) (in2 i a2) hl1 hl2 fun u1 u2 h' tk p1 p2 hz' hO' st1 st2 hT hsz hk => ?_
    obtain ⟨y1, q1, r1⟩ := at1 i u1 p1
    obtain ⟨y2, q2, r2⟩ := at2 i u2 p2
    obtain rfl : x = y1 := Option.some.inj (hx.symm.trans q1)
    obtain rfl : y = y2 := Option.some.inj (hy.symm.trans q2)
    refine ⟨_, rfl, wpAny_letOwnedTupleGo_zip (s := { s with heap := h', toks := tk }) hz' fun h'' hz'' sb => ?_⟩
    have hT2 := (sb.2 s.heap.objs.size (Nat.ne_of_gt zl)).trans hT
    have I1 : Inv X pins σ (upd H s.heap.objs.size (HO.th (tob [u1, u2]) [x, y])) { s with heap := h'', toks := tk } :=
      I.turnedNew (ch := [z, TI, TO, i1, i2]) (fun c o hb q => by
        simp only [List.mem_cons, List.not_mem_nil, or_false, not_or] at hb
        obtain ⟨n1, n2, n3, n4, n5⟩ := hb
        exact (sb.2 c n1).trans (hk c o n1 n3 n4 n5 q)) hf (Nat.le_refl _) (th_ok (by show 2 ≤ sizeLine; decide) (.cons r1 (.cons r2 .nil)) hT2)
    refine ⟨.ref s.heap.objs.size, _, I1, rfl, ⟨_, _, x, y, rfl, I.hok.fresh (Nat.le_refl _), rfl, rfl, fun l hl => by rw [k1.gives_inj I hl g1]; exact hx, fun l hl => by rw [k2.gives_inj I hl g2]; exact hy⟩, ⟨hz'', ?_, ⟨u1, u2, ?_⟩, (out1 _ _ st1).at fun o q => ?_, (out2 _ _ st2).at fun o q => ?_⟩, fun c hc => ?_⟩
    · exact (sb.2 _ S.sep.TIz).trans (hk _ _ S.sep.TIz S.sep.TITO S.sep.TIi1 S.sep.TIi2 hI)
    · exact (sb.2 _ S.sep.TOz).trans hO'
    · exact (sb.2 i1 (fun e => S.sep.zi1 e.symm)).trans q
    · exact (sb.2 i2 (fun e => S.sep.zi2 e.symm)).trans q
    · rw [upd_ne (Nat.ne_of_lt (zlt c hc))]
      exact (hf c hc).1
  done := by
    rintro X rfl rfl rfl hc i pins s σ H E I hf ⟨hz, hI, ⟨x0, y0, hO⟩, a1, a2⟩ ⟨xs, ys, g1, g2, hl1, hl2, hend⟩
    obtain ⟨P1, S1, D1, in1, out1, at1⟩ := k1.draws I hc g1 i1 S.n1
    obtain ⟨P2, S2, D2, in2, out2, at2⟩ := k2.draws I hc g2 i2 S.n2
    exact wpAny_pyNext_zipD2_end S.sep D1 D2 hz hI hO (in1 i a1) (in2 i a2) hl1 hl2 hend fun h' tk hk => ⟨rfl, I.turnedL (t' := tk) (ch := [z, TI, TO, i1, i2]) (fun c o hb q => by
      simp only [List.mem_cons, List.not_mem_nil, or_false, not_or] at hb
      obtain ⟨n1, n2, n3, n4, n5⟩ := hb
      exact hk c o n1 n3 n4 n5 q) hf⟩
  self := fun A i s Q E ⟨hz, _⟩ h => wpAny_pyIter_zip hz h

def Iz3 (K : PySem.W.Frag) (k1 k2 k3 : Kd) : It :=
  ⟨fun i H => ∃ xs ys zs x y u, k1.gives K H xs ∧ k2.gives K H ys ∧ k3.gives K H zs ∧ xs[i]? = some x ∧ ys[i]? = some y ∧ zs[i]? = some u,
    fun i H v H' => ∃ T o x y u, v = .ref T ∧ H T = none ∧ o.dict = none ∧ H' = upd H T (HO.th o [x, y, u]) ∧ (∀ xs, k1.gives K H xs → xs[i]? = some x) ∧ (∀ ys, k2.gives K H ys → ys[i]? = some y) ∧ ∀ zs, k3.gives K H zs → zs[i]? = some u,
    fun i H => ∃ xs ys zs, k1.gives K H xs ∧ k2.gives K H ys ∧ k3.gives K H zs ∧ i ≤ xs.length ∧ i ≤ ys.length ∧ i ≤ zs.length ∧ (i = xs.length ∨ i = ys.length ∨ i = zs.length)⟩
structure Zp3 (k1 k2 k3 : Kd) (z TI TO i1 i2 i3 : Addr) : Prop where
  sep : ZipSep3 z TI TO i1 i2 i3 (i1 :: k1.ad) (i2 :: k2.ad) (i3 :: k3.ad)
  n1 : i1 ∉ k1.ad
  n2 : i2 ∉ k2.ad
  n3 : i3 ∉ k3.ad
theorem turn_z3 {P : Program} {w : World} {K : PySem.W.Frag} {elts : List Expr} {kk : Nat} {tpos : Pos} (k1 k2 k3 : Kd) {z TI TO i1 i2 i3 : Addr} (S : Zp3 k1 k2 k3 z TI TO i1 i2 i3) :
    Turn P w K (.Tuple elts kk tpos) (Iz3 K k1 k2 k3) [z, TI, TO, i1, i2, i3] z (fun i h => IsZip h z TI TO .none ∧ IsTupOf3 h TI (.ref i1) (.ref i2) (.ref i3) ∧ (∃ x y u, IsTupOf3 h TO x y u) ∧ k1.At i1 i h ∧ k2.At i2 i h ∧ k3.At i3 i h) where
  mem := List.mem_cons_self
  obj := fun i h ⟨hz, hI, ⟨x, y, u, hO⟩, a1, a2, a3⟩ b hb => by
    obtain ⟨o1, v1, e1, d1⟩ := a1.rec'
    obtain ⟨o2, v2, e2, d2⟩ := a2.rec'
    obtain ⟨o3, v3, e3, d3⟩ := a3.rec'
    simp only [List.mem_cons, List.not_mem_nil, or_false] at hb
    rcases hb with rfl | rfl | rfl | rfl | rfl | rfl
    · exact ⟨_, hz, nofun⟩
    · exact ⟨_, hI, nofun⟩
    · exact ⟨_, hO, nofun⟩
    · exact ⟨o1, e1, fun v q => by rw [d1] at q; cases q⟩
    · exact ⟨o2, e2, fun v q => by rw [d2] at q; cases q⟩
    · exact ⟨o3, e3, fun v q => by rw [d3] at q; cases q⟩
  keep := fun i h h' ⟨hz, hI, ⟨x, y, u, hO⟩, a1, a2, a3⟩ kp => ⟨kp z (by simp) _ hz, kp TI (by simp) _ hI, ⟨x, y, u, kp TO (by simp) _ hO⟩, a1.at fun o => kp i1 (by simp) o, a2.at fun o => kp i2 (by simp) o, a3.at fun o => kp i3 (by simp) o⟩
  item := by
    rintro X rfl rfl rfl hc i pins s σ H E I hf ⟨hz, hI, ⟨x0, y0, u0, hO⟩, a1, a2, a3⟩ ⟨xs, ys, zs, x, y, u, g1, g2, g3, hx, hy, hu⟩
    obtain ⟨P1, S1, D1, in1, out1, at1⟩ := k1.draws I hc g1 i1 S.n1
    obtain ⟨P2, S2, D2, in2, out2, at2⟩ := k2.draws I hc g2 i2 S.n2
    obtain ⟨P3, S3, D3, in3, out3, at3⟩ := k3.draws I hc g3 i3 S.n3
    have hl1 : i < xs.length := (List.getElem?_eq_some_iff.mp hx).1
    have hl2 : i < ys.length := (List.getElem?_eq_some_iff.mp hy).1
    have hl3 : i < zs.length := (List.getElem?_eq_some_iff.mp hu).1
    obtain ⟨o1, v1, e1, d1⟩ := a1.rec'
    obtain ⟨o2, v2, e2, d2⟩ := a2.rec'
    obtain ⟨o3, v3, e3, d3⟩ := a3.rec'
    have zl := lt_of_get hz
    have zlt : ∀ c ∈ [z, TI, TO, i1, i2, i3], c < s.heap.objs.size := fun c hc => by
      simp only [List.mem_cons, List.not_mem_nil, or_false] at hc
      rcases hc with rfl | rfl | rfl | rfl | rfl | rfl
      · exact zl
      · exact lt_of_get hI
      · exact lt_of_get hO
      · exact lt_of_get e1
      · exact lt_of_get e2
      · exact lt_of_get e3
    refine wpAny_pyNext_zipD3_item S.sep D1 D2 D3 hz hI hO (in1 i a1) (in2 i a2) (in3 i a3) hl1 hl2 hl3 fun u1 u2 u3 h' tk p1 p2 p3 hz' hO' st1 st2 st3 hT hsz hk => ?_
    obtain ⟨y1, q1, r1⟩ := at1 i u1 p1
    obtain ⟨y2, q2, r2⟩ := at2 i u2 p2
    obtain ⟨y3, q3, r3⟩ := at3 i u3 p3
    obtain rfl : x = y1 := Option.some.inj (hx.symm.trans q1)
    obtain rfl : y = y2 := Option.some.inj (hy.symm.trans q2)
    obtain rfl : u = y3 := Option.some.inj (hu.symm.trans q3)
    refine ⟨_, rfl, wpAny_letOwnedTupleGo_zip (s := { s with heap := h', toks := tk }) hz' fun h'' hz'' sb => ?_⟩
    have hT2 := (sb.2 s.heap.objs.size (Nat.ne_of_gt zl)).trans hT
    have I1 : Inv X pins σ (upd H s.heap.objs.size (HO.th (tob [u1, u2, u3]) [x, y, u])) { s with heap := h'', toks := tk } :=
      I.turnedNew (ch := [z, TI, TO, i1, i2, i3]) (fun c o hb q => by
        simp only [List.mem_cons, List.not_mem_nil, or_false, not_or] at hb
        obtain ⟨n1, n2, n3, n4, n5, n6⟩ := hb
        exact (sb.2 c n1).trans (hk c o n1 n3 n4 n5 n6 q)) hf (Nat.le_refl _) (th_ok (by show 3 ≤ sizeLine; decide) (.cons r1 (.cons r2 (.cons r3 .nil))) hT2)
    refine ⟨.ref s.heap.objs.size, _, I1, rfl, ⟨_, _, x, y, u, rfl, I.hok.fresh (Nat.le_refl _), rfl, rfl, fun l hl => by rw [k1.gives_inj I hl g1]; exact hx, fun l hl => by rw [k2.gives_inj I hl g2]; exact hy, fun l hl => by rw [k3.gives_inj I hl g3]; exact hu⟩,
      ⟨hz'', ?_, ⟨u1, u2, u3, ?_⟩, (out1 _ _ st1).at fun o q => ?_, (out2 _ _ st2).at fun o q => ?_, (out3 _ _ st3).at fun o q => ?_⟩, fun c hc => ?_⟩
    · exact (sb.2 _ S.sep.TIz).trans (hk _ _ S.sep.TIz S.sep.TITO S.sep.TIi1 S.sep.TIi2 S.sep.TIi3 hI)
    · exact (sb.2 _ S.sep.TOz).trans hO'
    · exact (sb.2 i1 (fun e => S.sep.zi1 e.symm)).trans q
    · exact (sb.2 i2 (fun e => S.sep.zi2 e.symm)).trans q
    · exact (sb.2 i3 (fun e => S.sep.zi3 e.symm)).trans q
    · rw [upd_ne (Nat.ne_of_lt (zlt c hc))]
      exact (hf c hc).1
  done := by
    rintro X rfl rfl rfl hc i pins s σ H E I hf ⟨hz, hI, ⟨x0, y0, u0, hO⟩, a1, a2, a3⟩ ⟨xs, ys, zs, g1, g2, g3, hl1, hl2, hl3, hend⟩
    obtain ⟨P1, S1, D1, in1, out1, at1⟩ := k1.draws I hc g1 i1 S.n1
    obtain ⟨P2, S2, D2, in2, out2, at2⟩ := k2.draws I hc g2 i2 S.n2
    obtain ⟨P3, S3, D3, in3, out3, at3⟩ := k3.draws I hc g3 i3 S.n3
    exact wpAny_pyNext_zipD3_end S.sep D1 D2 D3 hz hI hO (in1 i a1) (in2 i a2) (in3 i a3) hl1 hl2 hl3 hend fun h' tk hk => ⟨rfl, I.turnedL (t' := tk) (ch := [z, TI, TO, i1, i2, i3]) (fun c o hb q => by
      simp only [List.mem_cons, List.not_mem_nil, or_false, not_or] at hb
      obtain ⟨n1, n2, n3, n4, n5, n6⟩ := hb
      exact hk c o n1 n3 n4 n5 n6 q) hf⟩
  self := fun A i s Q E ⟨hz, _⟩ h => wpAny_pyIter_zip hz h

section
variable {X : Cx} {tg e e2 e3 : Expr} {elts : List Expr} {kk : Nat} {p pos tpos : Pos}
theorem vals2 {a b : V} {us : List Value} (h : Vals [a, b] us) : ∃ u v, us = [u, v] ∧ RelV a u ∧ RelV b v := by
  cases h with
  | cons r t => cases t with
    | cons r2 t => cases t; exact ⟨_, _, rfl, r, r2⟩
theorem vals3 {a b c : V} {us : List Value} (h : Vals [a, b, c] us) : ∃ u v w, us = [u, v, w] ∧ RelV a u ∧ RelV b v ∧ RelV c w := by
  cases h with
  | cons r t => obtain ⟨v, w, rfl, r2, r3⟩ := vals2 t; exact ⟨_, _, _, rfl, r, r2, r3⟩
def iZip2 (K : PySem.W.Frag) (ta : TA) : TI := fun σ H R => ta σ H fun vs H1 => ∃ x y xs ys C1 C2, vs = [x, y] ∧ Src K H1 x xs C1 ∧ Src K H1 y ys C2 ∧ ∀ k1 k2, C1 k1 → C2 k2 → R (Iz2 K k1 k2) H1
theorem pi_zip2 {ta : TA} (hg : Gl X "zip") (hm : X.mg "zip" = none) (ha : PA X [e, e2] ta) (hs : starEach [e, e2] X.env = (false, eval e X.env) :: starEach [e2] X.env := by rfl) (hpl : (backTo pos (starEach [e2] X.env)).any (·.1) = false := by rfl) :
    PI X (.Tuple elts kk tpos) (.Call (.Name "zip" p) [e, e2] [] pos) (iZip2 X.K ta) := by
  refine ⟨fun pins s σ H R I h => ?_⟩
  refine Call_ (ld_blt I hg hm PyProof.Rows.boot_zip (PyProof.Rows.callWith_type1 (thn (ha.run pos pins s σ H _ I h) fun us s1 ⟨vs, H1, I1, r1, x, y, xs, ys, C1, C2, ev, sx, sy, q⟩ => ?_) hs hpl))
  subst ev
  obtain ⟨u, v, rfl, ru, rv⟩ := vals2 r1
  obtain ⟨k1, h1, rfl, g1⟩ := sx.kd ru
  obtain ⟨k2, h2, rfl, g2⟩ := sy.kd rv
  obtain ⟨Hs1, B1, hs1, lt1⟩ := k1.begins I1 g1
  obtain ⟨Hs2, B2, hs2, lt2⟩ := k2.begins I1 g2
  refine zip_begins2 B1 B2 hs1 hs2 fun h' hz hI hO e1 e2 hsz kp => wpAny_pyIter_zip hz ?_
  have no : ∀ {k : Kd} (j : Nat), (∀ b ∈ k.ad, b < s1.heap.objs.size) → (s1.heap.objs.size + j) ∉ k.ad := fun j hl hm => by
    have z : (s1.heap.objs.size + j : Nat) < s1.heap.objs.size := hl _ hm
    omega
  refine ⟨s1.heap.objs.size + 4, [s1.heap.objs.size + 4, s1.heap.objs.size + 2, s1.heap.objs.size + 3, s1.heap.objs.size, s1.heap.objs.size + 1], _, _, H1, rfl, I1.kept (t' := s1.toks) kp, turn_z2 k1 k2 ⟨zip_sep2 lt1 lt2, no 0 lt1, no 1 lt2⟩, ⟨hz, hI, ⟨_, _, hO⟩, Kd.start e1, Kd.start e2⟩, fun b hb => ?_, q k1 k2 h1 h2⟩
  have hle : s1.heap.objs.size ≤ b := by
    simp only [List.mem_cons, List.not_mem_nil, or_false] at hb
    rcases hb with z | z | z | z | z <;> (rw [z]; first | exact Nat.le_refl _ | exact Nat.le_add_right _ _)
  exact I1.fpOk hle (I1.hok.fresh hle)
def iZip3 (K : PySem.W.Frag) (ta : TA) : TI := fun σ H R => ta σ H fun vs H1 => ∃ x y z xs ys zs C1 C2 C3, vs = [x, y, z] ∧ Src K H1 x xs C1 ∧ Src K H1 y ys C2 ∧ Src K H1 z zs C3 ∧ ∀ k1 k2 k3, C1 k1 → C2 k2 → C3 k3 → R (Iz3 K k1 k2 k3) H1
theorem pi_zip3 {ta : TA} (hg : Gl X "zip") (hm : X.mg "zip" = none) (ha : PA X [e, e2, e3] ta) (hs : starEach [e, e2, e3] X.env = (false, eval e X.env) :: starEach [e2, e3] X.env := by rfl) (hpl : (backTo pos (starEach [e2, e3] X.env)).any (·.1) = false := by rfl) :
    PI X (.Tuple elts kk tpos) (.Call (.Name "zip" p) [e, e2, e3] [] pos) (iZip3 X.K ta) := by
  refine ⟨fun pins s σ H R I h => ?_⟩
  refine Call_ (ld_blt I hg hm PyProof.Rows.boot_zip (PyProof.Rows.callWith_type1 (thn (ha.run pos pins s σ H _ I h) fun us s1 ⟨vs, H1, I1, r1, x, y, z, xs, ys, zs, C1, C2, C3, ev, sx, sy, sz, q⟩ => ?_) hs hpl))
  subst ev
  obtain ⟨u, v, w, rfl, ru, rv, rw⟩ := vals3 r1
  obtain ⟨k1, h1, rfl, g1⟩ := sx.kd ru
  obtain ⟨k2, h2, rfl, g2⟩ := sy.kd rv
  obtain ⟨k3, h3, rfl, g3⟩ := sz.kd rw
  obtain ⟨Hs1, B1, hs1, lt1⟩ := k1.begins I1 g1
  obtain ⟨Hs2, B2, hs2, lt2⟩ := k2.begins I1 g2
  obtain ⟨Hs3, B3, hs3, lt3⟩ := k3.begins I1 g3
  refine zip_begins3 B1 B2 B3 hs1 hs2 hs3 fun h' hz hI hO e1 e2 e3 hsz kp => wpAny_pyIter_zip hz ?_
  have no : ∀ {k : Kd} (j : Nat), (∀ b ∈ k.ad, b < s1.heap.objs.size) → (s1.heap.objs.size + j) ∉ k.ad := fun j hl hm => by
    have z : (s1.heap.objs.size + j : Nat) < s1.heap.objs.size := hl _ hm
    omega
  refine ⟨s1.heap.objs.size + 5, [s1.heap.objs.size + 5, s1.heap.objs.size + 3, s1.heap.objs.size + 4, s1.heap.objs.size, s1.heap.objs.size + 1, s1.heap.objs.size + 2], _, _, H1, rfl, I1.kept (t' := s1.toks) kp, turn_z3 k1 k2 k3 ⟨zip_sep3 lt1 lt2 lt3, no 0 lt1, no 1 lt2, no 2 lt3⟩, ⟨hz, hI, ⟨_, _, _, hO⟩, Kd.start e1, Kd.start e2, Kd.start e3⟩, fun b hb => ?_, q k1 k2 k3 h1 h2 h3⟩
  have hle : s1.heap.objs.size ≤ b := by
    simp only [List.mem_cons, List.not_mem_nil, or_false] at hb
    rcases hb with z | z | z | z | z | z <;> (rw [z]; first | exact Nat.le_refl _ | exact Nat.le_add_right _ _)
  exact I1.fpOk hle (I1.hok.fresh hle)
end
end VL
set_option Elab.async false
set_option linter.all false
set_option maxRecDepth 100000
set_option maxHeartbeats 4000000
namespace VL
open PySem PySem.Spec PyProof.Rows L2

/-! ### the items of plain data -/
def signsD (x : Str) : List PyData := x.cps.toList.map fun c => PyData.str (mkS [c])
@[simp] def itemsOf : PyData → Option (List PyData)
  | .list xs => some xs
  | .tuple xs => some xs
  | .str x => some (signsD x)
  | _ => none
def enumP (xs : List PyData) : List PyData := xs.zipIdx.map fun p => .tuple [.int (p.2 : Nat), p.1]
def zip2P (xs ys : List PyData) : List PyData := (xs.zip ys).map fun p => .tuple [p.1, p.2]
def zip3P (xs ys zs : List PyData) : List PyData := (xs.zip (ys.zip zs)).map fun p => .tuple [p.1, p.2.1, p.2.2]
def rangeP (i : Int) (n : Nat) : List PyData := (List.range n).map fun k => .int (i + (k : Nat))
theorem enumP_get {xs : List PyData} {k : Nat} {d : PyData} (h : (enumP xs)[k]? = some d) : ∃ x, xs[k]? = some x ∧ d = .tuple [.int (k : Nat), x] := by
  unfold enumP at h
  rw [List.getElem?_map, List.getElem?_zipIdx] at h
  cases e : xs[k]? with
  | none => rw [e] at h; cases h
  | some x => rw [e] at h; cases h; exact ⟨x, rfl, by simp⟩
theorem zip2P_get {xs ys : List PyData} {k : Nat} {d : PyData} (h : (zip2P xs ys)[k]? = some d) : ∃ x y, xs[k]? = some x ∧ ys[k]? = some y ∧ d = .tuple [x, y] := by
  unfold zip2P at h
  rw [List.getElem?_map] at h
  cases e : (xs.zip ys)[k]? with
  | none => rw [e] at h; cases h
  | some x =>
    rw [e] at h; cases h
    rw [List.getElem?_zip_eq_some] at e
    exact ⟨x.1, x.2, e.1, e.2, rfl⟩
theorem zip3P_get {xs ys zs : List PyData} {k : Nat} {d : PyData} (h : (zip3P xs ys zs)[k]? = some d) : ∃ x y u, xs[k]? = some x ∧ ys[k]? = some y ∧ zs[k]? = some u ∧ d = .tuple [x, y, u] := by
  unfold zip3P at h
  rw [List.getElem?_map] at h
  cases e : (xs.zip (ys.zip zs))[k]? with
  | none => rw [e] at h; cases h
  | some x =>
    rw [e] at h; cases h
    rw [List.getElem?_zip_eq_some, List.getElem?_zip_eq_some] at e
    exact ⟨x.1, x.2.1, x.2.2, e.1, e.2.1, e.2.2, rfl⟩
theorem rangeP_get {i : Int} {n k : Nat} {d : PyData} (h : (rangeP i n)[k]? = some d) : k < n ∧ d = .int (i + (k : Nat)) := by
  unfold rangeP at h
  rw [List.getElem?_map] at h
  by_cases hk : k < n
  · rw [List.getElem?_range hk] at h; cases h; exact ⟨hk, rfl⟩
  · rw [List.getElem?_eq_none (by simp; omega)] at h; cases h

/-! ### the walks, over data -/
section
variable {b : Bg} {Y Z : Addr → Prop} {H : Hp} {K : PySem.W.Frag}
theorem rqs_signs {x : Str} : Rqs Z H (signs x) (signsD x) := by
  unfold signs signsD
  induction x.cps.toList with
  | nil => exact .nil
  | cons c l ih => exact .cons (.str _) ih
/-- a source: what stands there, and stays -/
structure SrcD (K : PySem.W.Frag) (Y Z : Addr → Prop) (H : Hp) (v : V) (xs : List PyData) (vs : List V) (C : Kd → Prop) : Prop where
  src : Src K H v vs C
  rq : Rqs Z H vs xs
  stay : ∀ k, C k → ∀ H2 : Hp, (∀ a o, H a = some o → ¬ Y a → H2 a = some o) → k.gives K H2 vs
theorem srcD {v : V} {p : PyData} {xs : List PyData} (r : Rb b Z H v (.py p)) (hn : ∀ a, v = .ref a → ¬ Y a) (e : itemsOf p = some xs) : ∃ vs C, SrcD K Y Z H v xs vs C := by
  cases p with
  | list ds =>
    cases e
    obtain ⟨a, us, rfl, ha, q⟩ := r.list
    exact ⟨us, _, .l (SqL.of ha), q, fun k hk H2 h2 => by rw [hk]; exact SqL.of (h2 a _ ha (hn a rfl))⟩
  | tuple ds =>
    cases e
    obtain ⟨a, o, us, rfl, ha, ho, na, q⟩ := r.tuple
    exact ⟨us, _, .t (SqT.th ha), q, fun k hk H2 h2 => by rw [hk]; exact SqT.th (h2 a _ ha (hn a rfl))⟩
  | str x =>
    cases e
    have ev := r.str
    subst ev
    exact ⟨signs x, _, .s, rqs_signs, fun k hk H2 h2 => by obtain ⟨t, rfl⟩ := hk; rfl⟩
  | _ => cases e
/-- what a source has at k -/
theorem SrcD.at {v : V} {xs : List PyData} {vs : List V} {C : Kd → Prop} (s : SrcD K Y Z H v xs vs C) (hY : ∀ a, ¬ Z a → ¬ Y a) {k : Nat} {d : PyData} (h : xs[k]? = some d) {H2 : Hp} (h2 : ∀ a o, H a = some o → ¬ Y a → H2 a = some o) :
    ∃ x, vs[k]? = some x ∧ ∀ Z2 : Addr → Prop, (∀ a, Z2 a → Z a ∨ H a = none) → Rq Z2 H2 x d := by
  obtain ⟨x, hx, r⟩ := s.rq.get h
  exact ⟨x, hx, fun Z2 hz => r.mono hz fun a o e n => h2 a o e (hY a n)⟩
theorem Rq.new2 {Z2 : Addr → Prop} {H2 : Hp} {T : Addr} {o : Obj} {vs : List V} {ds : List PyData} (hT : H2 T = none) (ho : o.dict = none) (hz : ∀ a, Z2 a → H2 a ≠ none) (r : Rqs Z2 H2 vs ds) : Rq Z2 (upd H2 T (HO.th o vs)) (.ref T) (.tuple ds) :=
  .tup upd_same ho (fun z => hz T z hT) (r.up hT)
theorem wk_src {v : V} {xs : List PyData} {vs : List V} {C : Kd → Prop} (s : SrcD K Y Z H v xs vs C) (hY : ∀ a, ¬ Z a → ¬ Y a) {k : Kd} (hk : C k) : Wk b Y Z H (Itk K k) (xs.map D.py) where
  go := fun i d H2 hd h2 g => by
    rw [List.getElem?_map] at hd
    cases e : xs[i]? with
    | none => rw [e] at hd; cases hd
    | some p =>
      rw [e] at hd; cases hd
      obtain ⟨x, hx, r⟩ := s.at hY e h2
      have gv := s.stay k hk H2 h2
      refine ⟨⟨vs, x, gv, hx⟩, fun v H3 y => ?_⟩
      obtain ⟨eH, y⟩ := y
      subst eH
      have : x = v := Option.some.inj (hx.symm.trans (y vs gv))
      subst this
      exact ⟨Ex.refl, g, fun Z2 hz _ => r Z2 hz⟩
  stop := fun i H2 hl h2 => ⟨vs, s.stay k hk H2 h2, by rw [s.rq.length, ← hl, List.length_map]; exact Nat.le_refl _⟩
theorem wk_enum {v : V} {xs : List PyData} {vs : List V} {C : Kd → Prop} (s : SrcD K Y Z H v xs vs C) (hY : ∀ a, ¬ Z a → ¬ Y a) {k : Kd} (hk : C k) : Wk b Y Z H (Iek K k) ((enumP xs).map D.py) where
  go := fun i d H2 hd h2 g => by
    rw [List.getElem?_map] at hd
    cases e : (enumP xs)[i]? with
    | none => rw [e] at hd; cases hd
    | some p =>
      rw [e] at hd; cases hd
      obtain ⟨q, hq, rfl⟩ := enumP_get e
      obtain ⟨x, hx, r⟩ := s.at hY hq h2
      have gv := s.stay k hk H2 h2
      refine ⟨⟨vs, x, gv, hx⟩, fun v H3 y => ?_⟩
      obtain ⟨T, o, x', rfl, hT, ho, eH, y⟩ := y
      subst eH
      have : x = x' := Option.some.inj (hx.symm.trans (y vs gv))
      subst this
      exact ⟨Ex.new hT, Bg.new g hT, fun Z2 hz h3 => Rq.new2 hT ho h3 (.cons (.int _) (.cons (r Z2 hz) .nil))⟩
  stop := fun i H2 hl h2 => ⟨vs, s.stay k hk H2 h2, by rw [s.rq.length, ← hl]; simp [enumP]⟩
theorem wk_zip2 {v w : V} {xs ys : List PyData} {vs ws : List V} {C1 C2 : Kd → Prop} (s : SrcD K Y Z H v xs vs C1) (t : SrcD K Y Z H w ys ws C2) (hY : ∀ a, ¬ Z a → ¬ Y a) {k1 k2 : Kd} (h1 : C1 k1) (hk2 : C2 k2) : Wk b Y Z H (Iz2 K k1 k2) ((zip2P xs ys).map D.py) where
  go := fun i d H2 hd h2 g => by
    rw [List.getElem?_map] at hd
    cases e : (zip2P xs ys)[i]? with
    | none => rw [e] at hd; cases hd
    | some p =>
      rw [e] at hd; cases hd
      obtain ⟨q, q', hq, hq', rfl⟩ := zip2P_get e
      obtain ⟨x, hx, r⟩ := s.at hY hq h2
      obtain ⟨u, hu, r'⟩ := t.at hY hq' h2
      have gv := s.stay k1 h1 H2 h2
      have gu := t.stay k2 hk2 H2 h2
      refine ⟨⟨vs, ws, x, u, gv, gu, hx, hu⟩, fun v H3 y => ?_⟩
      obtain ⟨T, o, x', u', rfl, hT, ho, eH, y1, y2⟩ := y
      subst eH
      have : x = x' := Option.some.inj (hx.symm.trans (y1 vs gv))
      subst this
      have : u = u' := Option.some.inj (hu.symm.trans (y2 ws gu))
      subst this
      exact ⟨Ex.new hT, Bg.new g hT, fun Z2 hz h3 => Rq.new2 hT ho h3 (.cons (r Z2 hz) (.cons (r' Z2 hz) .nil))⟩
  stop := fun i H2 hl h2 => by
    have e : min xs.length ys.length = i := by rw [← hl]; simp [zip2P]
    refine ⟨vs, ws, s.stay k1 h1 H2 h2, t.stay k2 hk2 H2 h2, ?_⟩
    rw [s.rq.length, t.rq.length]
    omega
theorem wk_zip3 {v w z : V} {xs ys zs : List PyData} {vs ws us : List V} {C1 C2 C3 : Kd → Prop} (s : SrcD K Y Z H v xs vs C1) (t : SrcD K Y Z H w ys ws C2) (m : SrcD K Y Z H z zs us C3) (hY : ∀ a, ¬ Z a → ¬ Y a) {k1 k2 k3 : Kd} (h1 : C1 k1) (hk2 : C2 k2) (hk3 : C3 k3) : Wk b Y Z H (Iz3 K k1 k2 k3) ((zip3P xs ys zs).map D.py) where
  go := fun i d H2 hd h2 g => by
    rw [List.getElem?_map] at hd
    cases e : (zip3P xs ys zs)[i]? with
    | none => rw [e] at hd; cases hd
    | some p =>
      rw [e] at hd; cases hd
      obtain ⟨q, q', q'', hq, hq', hq'', rfl⟩ := zip3P_get e
      obtain ⟨x, hx, r⟩ := s.at hY hq h2
      obtain ⟨u, hu, r'⟩ := t.at hY hq' h2
      obtain ⟨c, hc, r''⟩ := m.at hY hq'' h2
      have gv := s.stay k1 h1 H2 h2
      have gu := t.stay k2 hk2 H2 h2
      have gc := m.stay k3 hk3 H2 h2
      refine ⟨⟨vs, ws, us, x, u, c, gv, gu, gc, hx, hu, hc⟩, fun v H3 y => ?_⟩
      obtain ⟨T, o, x', u', c', rfl, hT, ho, eH, y1, y2, y3⟩ := y
      subst eH
      have : x = x' := Option.some.inj (hx.symm.trans (y1 vs gv))
      subst this
      have : u = u' := Option.some.inj (hu.symm.trans (y2 ws gu))
      subst this
      have : c = c' := Option.some.inj (hc.symm.trans (y3 us gc))
      subst this
      exact ⟨Ex.new hT, Bg.new g hT, fun Z2 hz h3 => Rq.new2 hT ho h3 (.cons (r Z2 hz) (.cons (r' Z2 hz) (.cons (r'' Z2 hz) .nil)))⟩
  stop := fun i H2 hl h2 => by
    have e : min xs.length (min ys.length zs.length) = i := by rw [← hl]; simp [zip3P]
    refine ⟨vs, ws, us, s.stay k1 h1 H2 h2, t.stay k2 hk2 H2 h2, m.stay k3 hk3 H2 h2, ?_⟩
    rw [s.rq.length, t.rq.length, m.rq.length]
    omega
theorem wk_range {lo : Int} {n : Nat} : Wk b Y Z H (Itr lo n) ((rangeP lo n).map D.py) where
  go := fun i d H2 hd h2 g => by
    rw [List.getElem?_map] at hd
    cases e : (rangeP lo n)[i]? with
    | none => rw [e] at hd; cases hd
    | some p =>
      rw [e] at hd; cases hd
      obtain ⟨hlt, rfl⟩ := rangeP_get e
      refine ⟨hlt, fun v H3 y => ?_⟩
      obtain ⟨eH, y⟩ := y
      subst eH y
      exact ⟨Ex.refl, g, fun Z2 hz _ => .int _⟩
  stop := fun i H2 hl h2 => by
    have e : n = i := by rw [← hl]; simp [rangeP]
    rw [e]
    exact Nat.le_refl _
end

/-! ### iterators as judgements -/
@[simp] def asO {α : Type} : Option α → (α → Prop) → Prop
  | some a, Q => Q a
  | none, _ => False
theorem asO_ex {α : Type} : ∀ {o : Option α} {Q : α → Prop}, asO o Q → ∃ a, o = some a ∧ Q a
  | some a, _, h => ⟨a, rfl, h⟩
@[simp] def asS : D → (List D → Prop) → Prop
  | .py p, Q => asO (itemsOf p) fun xs => Q (xs.map D.py)
  | _, _ => False
@[simp] def asEn : List D → (List D → Prop) → Prop
  | [.py p], Q => asO (itemsOf p) fun xs => Q ((enumP xs).map D.py)
  | _, _ => False
@[simp] def asZ2 : List D → (List D → Prop) → Prop
  | [.py p, .py q], Q => asO (itemsOf p) fun xs => asO (itemsOf q) fun ys => Q ((zip2P xs ys).map D.py)
  | _, _ => False
@[simp] def asZ3 : List D → (List D → Prop) → Prop
  | [.py p, .py q, .py r], Q => asO (itemsOf p) fun xs => asO (itemsOf q) fun ys => asO (itemsOf r) fun zs => Q ((zip3P xs ys zs).map D.py)
  | _, _ => False
abbrev small62 (i : Int) : Prop := -(2 ^ 62) ≤ i ∧ i < 2 ^ 62
@[simp] theorem small62_nat (n : Nat) : small62 (n : Int) ↔ n < 4611686018427387904 := by unfold small62; omega
@[simp] def asR1 : List D → (List D → Prop) → Prop
  | [.py (.int i)], Q => small62 i ∧ Q ((rangeP 0 i.toNat).map D.py)
  | _, _ => False
@[simp] def asR2 : List D → (List D → Prop) → Prop
  | [.py (.int i), .py (.int j)], Q => (small62 i ∧ small62 j) ∧ Q ((rangeP i (j - i).toNat).map D.py)
  | _, _ => False
theorem asS_ex : ∀ {d : D} {Q : List D → Prop}, asS d Q → ∃ p xs, d = .py p ∧ itemsOf p = some xs ∧ Q (xs.map D.py)
  | .py p, _, h => let ⟨xs, e, q⟩ := asO_ex h; ⟨p, xs, rfl, e, q⟩
theorem asEn_ex : ∀ {d : List D} {Q : List D → Prop}, asEn d Q → ∃ p xs, d = [.py p] ∧ itemsOf p = some xs ∧ Q ((enumP xs).map D.py)
  | [.py p], _, h => let ⟨xs, e, q⟩ := asO_ex h; ⟨p, xs, rfl, e, q⟩
theorem asZ2_ex : ∀ {d : List D} {Q : List D → Prop}, asZ2 d Q → ∃ p xs q ys, d = [.py p, .py q] ∧ itemsOf p = some xs ∧ itemsOf q = some ys ∧ Q ((zip2P xs ys).map D.py)
  | [.py p, .py q], _, h => let ⟨xs, e, h⟩ := asO_ex h; let ⟨ys, e2, h⟩ := asO_ex h; ⟨p, xs, q, ys, rfl, e, e2, h⟩
theorem asZ3_ex : ∀ {d : List D} {Q : List D → Prop}, asZ3 d Q → ∃ p xs q ys r zs, d = [.py p, .py q, .py r] ∧ itemsOf p = some xs ∧ itemsOf q = some ys ∧ itemsOf r = some zs ∧ Q ((zip3P xs ys zs).map D.py)
  | [.py p, .py q, .py r], _, h => let ⟨xs, e, h⟩ := asO_ex h; let ⟨ys, e2, h⟩ := asO_ex h; let ⟨zs, e3, h⟩ := asO_ex h; ⟨p, xs, q, ys, r, zs, rfl, e, e2, e3, h⟩
theorem asR1_ex : ∀ {d : List D} {Q : List D → Prop}, asR1 d Q → ∃ i, d = [.py (.int i)] ∧ small62 i ∧ Q ((rangeP 0 i.toNat).map D.py)
  | [.py (.int i)], _, h => ⟨i, rfl, h⟩
theorem asR2_ex : ∀ {d : List D} {Q : List D → Prop}, asR2 d Q → ∃ i j, d = [.py (.int i), .py (.int j)] ∧ (small62 i ∧ small62 j) ∧ Q ((rangeP i (j - i).toNat).map D.py)
  | [.py (.int i), .py (.int j)], _, h => ⟨i, j, rfl, h⟩
@[simp] def iS (t : VT) : VIt := fun ρ Q E => t ρ (fun d => asS d Q) E
@[simp] def iEn (t : VA) : VIt := fun ρ Q E => t ρ (fun d => asEn d Q) E
@[simp] def iZ2 (t : VA) : VIt := fun ρ Q E => t ρ (fun d => asZ2 d Q) E
@[simp] def iZ3 (t : VA) : VIt := fun ρ Q E => t ρ (fun d => asZ3 d Q) E
@[simp] def iR1 (t : VA) : VIt := fun ρ Q E => t ρ (fun d => asR1 d Q) E
@[simp] def iR2 (t : VA) : VIt := fun ρ Q E => t ρ (fun d => asR2 d Q) E
theorem pi_mono {X : Cx} {tg iter : Expr} {t t' : TI} (h : PI X tg iter t) (m : ∀ σ H R, t' σ H R → t σ H R) : PI X tg iter t' := ⟨fun pins s σ H R I q => h.run pins s σ H R I (m σ H R q)⟩
section
variable {X : Cx} {b : Bg} {W : WX} {tg e e1 e2 e3 : Expr} {elts : List Expr} {kk : Nat} {t t1 t2 t3 : VT} {p pos tpos : Pos}
theorem Rp.ref {Z : Addr → Prop} {H : Hp} {v : V} {p : PyData} (r : Rp b Z H v (.py p)) : ∀ a, v = .ref a → ¬ Z a := fun a e => by
  subst e
  cases r <;> assumption
theorem Rb.ref {Z : Addr → Prop} {H : Hp} {v : V} {p : PyData} (g : Gd b Z H) (r : Rb b Z H v (.py p)) : ∀ a, v = .ref a → ¬ b.B a := fun a e => by
  rcases r with r | ⟨c, e1, n, _⟩
  · exact fun z => Rp.ref r a e (g.zb a z)
  · rw [e] at e1; cases e1; exact n
/-- a loop -/
theorem vi_src (h : VE X b W e t) : VI X b W tg e (iS t) := pi_mono (pi_src h) fun σ H R ⟨Zo, Z, ρ, Qd, Ed, v, q, l, m⟩ =>
  ⟨Zo, Z, ρ, _, Ed, v, q, fun x H1 d x1 g1 r1 hh => by
    obtain ⟨p, xs, ed, ei, q1⟩ := asS_ex hh
    subst ed
    obtain ⟨vs, C, s⟩ := srcD (K := X.K) (Y := Z) (.inl r1) (Rp.ref r1) ei
    exact ⟨vs, C, s.src, fun k hk => l _ H1 _ x1 g1 (wk_src s (fun _ n => n) hk) q1⟩, m⟩
theorem vib_src (h : VX X b W e t) : VIb X b W tg e (iS t) := pi_mono (pi_src h) fun σ H R ⟨Zo, Z, ρ, Qd, Ed, v, q, l, m⟩ =>
  ⟨Zo, Z, ρ, _, Ed, v, q, fun x H1 d x1 g1 r1 hh => by
    obtain ⟨p, xs, ed, ei, q1⟩ := asS_ex hh
    subst ed
    have gd := (v.ex x1 g1).gd
    obtain ⟨vs, C, s⟩ := srcD (K := X.K) (Y := b.B) r1 (Rb.ref gd r1) ei
    exact ⟨vs, C, s.src, fun k hk => l _ H1 _ x1 g1 (wk_src s (fun _ n z => n (gd.zb _ z)) hk) q1⟩, m⟩
/-- many values as sources -/
theorem Rps.rbs {Z : Addr → Prop} {H : Hp} : ∀ {v : List V} {d : List D}, Rps b Z H v d → Rbs b Z H v d
  | _, _, .nil => .nil
  | _, _, .cons r t => .cons (.inl r) (Rps.rbs t)
theorem rbs1 {Z : Addr → Prop} {H : Hp} {v : List V} {d : D} (r : Rps b Z H v [d]) : ∃ x, v = [x] ∧ Rp b Z H x d := by
  cases r with
  | cons r t => cases t; exact ⟨_, rfl, r⟩
theorem rbs2 {Z : Addr → Prop} {H : Hp} {v : List V} {d d2 : D} (r : Rps b Z H v [d, d2]) : ∃ x y, v = [x, y] ∧ Rp b Z H x d ∧ Rp b Z H y d2 := by
  cases r with
  | cons r t => obtain ⟨y, rfl, r2⟩ := rbs1 t; exact ⟨_, y, rfl, r, r2⟩
theorem rbs3 {Z : Addr → Prop} {H : Hp} {v : List V} {d d2 d3 : D} (r : Rps b Z H v [d, d2, d3]) : ∃ x y z, v = [x, y, z] ∧ Rp b Z H x d ∧ Rp b Z H y d2 ∧ Rp b Z H z d3 := by
  cases r with
  | cons r t => obtain ⟨y, z, rfl, r2, r3⟩ := rbs2 t; exact ⟨_, y, z, rfl, r, r2, r3⟩
theorem Rbs.three {Z : Addr → Prop} {H : Hp} {v : List V} {d d2 d3 : D} (r : Rbs b Z H v [d, d2, d3]) : ∃ x y z, v = [x, y, z] ∧ Rb b Z H x d ∧ Rb b Z H y d2 ∧ Rb b Z H z d3 := by
  cases r with
  | cons r t => obtain ⟨y, z, rfl, r2, r3⟩ := Rbs.two t; exact ⟨_, y, z, rfl, r, r2, r3⟩
variable {ta : VA}
theorem vi_enum (hg : Gl X "enumerate") (hm : X.mg "enumerate" = none) (h : VAs X b W [e] ta) (hs : starEach [e] X.env = [(false, eval e X.env)] := by rfl) : VI X b W (.Tuple elts kk tpos) (.Call (.Name "enumerate" p) [e] [] pos) (iEn ta) :=
  pi_mono (pi_enumS hg hm h hs) fun σ H R ⟨Zo, Z, ρ, Qd, Ed, v, q, l, m⟩ =>
    ⟨Zo, Z, ρ, _, Ed, v, q, fun x H1 d x1 g1 r1 hh => by
      obtain ⟨p, xs, ed, ei, q1⟩ := asEn_ex hh
      subst ed
      obtain ⟨w, rfl, r2⟩ := rbs1 r1
      obtain ⟨vs, C, s⟩ := srcD (K := X.K) (Y := Z) (.inl r2) (Rp.ref r2) ei
      exact ⟨w, vs, C, rfl, s.src, fun k hk => l _ H1 _ x1 g1 (wk_enum s (fun _ n => n) hk) q1⟩, m⟩
theorem vib_enum (hg : Gl X "enumerate") (hm : X.mg "enumerate" = none) (h : VXs X b W [e] ta) (hs : starEach [e] X.env = [(false, eval e X.env)] := by rfl) : VIb X b W (.Tuple elts kk tpos) (.Call (.Name "enumerate" p) [e] [] pos) (iEn ta) :=
  pi_mono (pi_enumS hg hm h hs) fun σ H R ⟨Zo, Z, ρ, Qd, Ed, v, q, l, m⟩ =>
    ⟨Zo, Z, ρ, _, Ed, v, q, fun x H1 d x1 g1 r1 hh => by
      obtain ⟨p, xs, ed, ei, q1⟩ := asEn_ex hh
      subst ed
      have gd := (v.ex x1 g1).gd
      obtain ⟨w, rfl, r2⟩ := Rbs.one r1
      obtain ⟨vs, C, s⟩ := srcD (K := X.K) (Y := b.B) r2 (Rb.ref gd r2) ei
      exact ⟨w, vs, C, rfl, s.src, fun k hk => l _ H1 _ x1 g1 (wk_enum s (fun _ n z => n (gd.zb _ z)) hk) q1⟩, m⟩
theorem vi_zip2 (hg : Gl X "zip") (hm : X.mg "zip" = none) (h : VAs X b W [e, e2] ta) (hs : starEach [e, e2] X.env = (false, eval e X.env) :: starEach [e2] X.env := by rfl) (hpl : (backTo pos (starEach [e2] X.env)).any (·.1) = false := by rfl) :
    VI X b W (.Tuple elts kk tpos) (.Call (.Name "zip" p) [e, e2] [] pos) (iZ2 ta) :=
  pi_mono (pi_zip2 hg hm h hs hpl) fun σ H R ⟨Zo, Z, ρ, Qd, Ed, v, q, l, m⟩ =>
    ⟨Zo, Z, ρ, _, Ed, v, q, fun x H1 d x1 g1 r1 hh => by
      obtain ⟨p, xs, q, ys, ed, ei, ej, q1⟩ := asZ2_ex hh
      subst ed
      obtain ⟨w, y, rfl, r1, r2⟩ := rbs2 r1
      obtain ⟨vs, C, s⟩ := srcD (K := X.K) (Y := Z) (.inl r1) (Rp.ref r1) ei
      obtain ⟨vs2, C2, s2⟩ := srcD (K := X.K) (Y := Z) (.inl r2) (Rp.ref r2) ej
      exact ⟨w, y, vs, vs2, C, C2, rfl, s.src, s2.src, fun k k2 hk hk2 => l _ H1 _ x1 g1 (wk_zip2 s s2 (fun _ n => n) hk hk2) q1⟩, m⟩
theorem vib_zip2 (hg : Gl X "zip") (hm : X.mg "zip" = none) (h : VXs X b W [e, e2] ta) (hs : starEach [e, e2] X.env = (false, eval e X.env) :: starEach [e2] X.env := by rfl) (hpl : (backTo pos (starEach [e2] X.env)).any (·.1) = false := by rfl) :
    VIb X b W (.Tuple elts kk tpos) (.Call (.Name "zip" p) [e, e2] [] pos) (iZ2 ta) :=
  pi_mono (pi_zip2 hg hm h hs hpl) fun σ H R ⟨Zo, Z, ρ, Qd, Ed, v, q, l, m⟩ =>
    ⟨Zo, Z, ρ, _, Ed, v, q, fun x H1 d x1 g1 r1 hh => by
      obtain ⟨p, xs, q, ys, ed, ei, ej, q1⟩ := asZ2_ex hh
      subst ed
      have gd := (v.ex x1 g1).gd
      obtain ⟨w, y, rfl, r1, r2⟩ := Rbs.two r1
      obtain ⟨vs, C, s⟩ := srcD (K := X.K) (Y := b.B) r1 (Rb.ref gd r1) ei
      obtain ⟨vs2, C2, s2⟩ := srcD (K := X.K) (Y := b.B) r2 (Rb.ref gd r2) ej
      exact ⟨w, y, vs, vs2, C, C2, rfl, s.src, s2.src, fun k k2 hk hk2 => l _ H1 _ x1 g1 (wk_zip2 s s2 (fun _ n z => n (gd.zb _ z)) hk hk2) q1⟩, m⟩
theorem vi_zip3 (hg : Gl X "zip") (hm : X.mg "zip" = none) (h : VAs X b W [e, e2, e3] ta) (hs : starEach [e, e2, e3] X.env = (false, eval e X.env) :: starEach [e2, e3] X.env := by rfl) (hpl : (backTo pos (starEach [e2, e3] X.env)).any (·.1) = false := by rfl) :
    VI X b W (.Tuple elts kk tpos) (.Call (.Name "zip" p) [e, e2, e3] [] pos) (iZ3 ta) :=
  pi_mono (pi_zip3 hg hm h hs hpl) fun σ H R ⟨Zo, Z, ρ, Qd, Ed, v, q, l, m⟩ =>
    ⟨Zo, Z, ρ, _, Ed, v, q, fun x H1 d x1 g1 r1 hh => by
      obtain ⟨p, xs, q, ys, r, zs, ed, ei, ej, ek, q1⟩ := asZ3_ex hh
      subst ed
      obtain ⟨w, y, z, rfl, r1, r2, r3⟩ := rbs3 r1
      obtain ⟨vs, C, s⟩ := srcD (K := X.K) (Y := Z) (.inl r1) (Rp.ref r1) ei
      obtain ⟨vs2, C2, s2⟩ := srcD (K := X.K) (Y := Z) (.inl r2) (Rp.ref r2) ej
      obtain ⟨vs3, C3, s3⟩ := srcD (K := X.K) (Y := Z) (.inl r3) (Rp.ref r3) ek
      exact ⟨w, y, z, vs, vs2, vs3, C, C2, C3, rfl, s.src, s2.src, s3.src, fun k k2 k3 hk hk2 hk3 => l _ H1 _ x1 g1 (wk_zip3 s s2 s3 (fun _ n => n) hk hk2 hk3) q1⟩, m⟩
theorem vib_zip3 (hg : Gl X "zip") (hm : X.mg "zip" = none) (h : VXs X b W [e, e2, e3] ta) (hs : starEach [e, e2, e3] X.env = (false, eval e X.env) :: starEach [e2, e3] X.env := by rfl) (hpl : (backTo pos (starEach [e2, e3] X.env)).any (·.1) = false := by rfl) :
    VIb X b W (.Tuple elts kk tpos) (.Call (.Name "zip" p) [e, e2, e3] [] pos) (iZ3 ta) :=
  pi_mono (pi_zip3 hg hm h hs hpl) fun σ H R ⟨Zo, Z, ρ, Qd, Ed, v, q, l, m⟩ =>
    ⟨Zo, Z, ρ, _, Ed, v, q, fun x H1 d x1 g1 r1 hh => by
      obtain ⟨p, xs, q, ys, r, zs, ed, ei, ej, ek, q1⟩ := asZ3_ex hh
      subst ed
      have gd := (v.ex x1 g1).gd
      obtain ⟨w, y, z, rfl, r1, r2, r3⟩ := Rbs.three r1
      obtain ⟨vs, C, s⟩ := srcD (K := X.K) (Y := b.B) r1 (Rb.ref gd r1) ei
      obtain ⟨vs2, C2, s2⟩ := srcD (K := X.K) (Y := b.B) r2 (Rb.ref gd r2) ej
      obtain ⟨vs3, C3, s3⟩ := srcD (K := X.K) (Y := b.B) r3 (Rb.ref gd r3) ek
      exact ⟨w, y, z, vs, vs2, vs3, C, C2, C3, rfl, s.src, s2.src, s3.src, fun k k2 k3 hk hk2 hk3 => l _ H1 _ x1 g1 (wk_zip3 s s2 s3 (fun _ n z => n (gd.zb _ z)) hk hk2 hk3) q1⟩, m⟩
theorem pi_rng1 {Yf : (Addr → Prop) → Addr → Prop} (hg : Gl X "range") (hm : X.mg "range" = none) (h : VXs X b W [e] ta) (hs : starEach [e] X.env = [(false, eval e X.env)] := by rfl) : PI X tg (.Call (.Name "range" p) [e] [] pos) (LI b W Yf (iR1 ta)) :=
  pi_mono (pi_range1 hg hm h hs) fun σ H R ⟨Zo, Z, ρ, Qd, Ed, v, q, l, m⟩ =>
    ⟨Zo, Z, ρ, _, Ed, v, q, fun x H1 d x1 g1 r1 hh => by
      obtain ⟨i, ed, ⟨i1, i2⟩, q1⟩ := asR1_ex hh
      subst ed
      obtain ⟨w, rfl, r2⟩ := Rbs.one r1
      exact ⟨i, by rw [r2.int], i1, i2, l _ H1 _ x1 g1 wk_range q1⟩, m⟩
theorem pi_rng2 {Yf : (Addr → Prop) → Addr → Prop} (hg : Gl X "range") (hm : X.mg "range" = none) (h : VXs X b W [e1, e2] ta) (hs : starEach [e1, e2] X.env = [(false, eval e1 X.env), (false, eval e2 X.env)] := by rfl) (hs2 : starEach [e2] X.env = [(false, eval e2 X.env)] := by rfl) :
    PI X tg (.Call (.Name "range" p) [e1, e2] [] pos) (LI b W Yf (iR2 ta)) :=
  pi_mono (pi_range2 hg hm h hs hs2) fun σ H R ⟨Zo, Z, ρ, Qd, Ed, v, q, l, m⟩ =>
    ⟨Zo, Z, ρ, _, Ed, v, q, fun x H1 d x1 g1 r1 hh => by
      obtain ⟨i, j, ed, ⟨⟨i1, i2⟩, j1, j2⟩, q1⟩ := asR2_ex hh
      subst ed
      obtain ⟨w, y, rfl, r1, r2⟩ := Rbs.two r1
      exact ⟨i, j, by rw [r1.int, r2.int], ⟨i1, i2, j1, j2⟩, l _ H1 _ x1 g1 wk_range q1⟩, m⟩
theorem vi_range1 (hg : Gl X "range") (hm : X.mg "range" = none) (h : VXs X b W [e] ta) (hs : starEach [e] X.env = [(false, eval e X.env)] := by rfl) : VI X b W tg (.Call (.Name "range" p) [e] [] pos) (iR1 ta) := pi_rng1 hg hm h hs
theorem vib_range1 (hg : Gl X "range") (hm : X.mg "range" = none) (h : VXs X b W [e] ta) (hs : starEach [e] X.env = [(false, eval e X.env)] := by rfl) : VIb X b W tg (.Call (.Name "range" p) [e] [] pos) (iR1 ta) := pi_rng1 hg hm h hs
theorem vi_range2 (hg : Gl X "range") (hm : X.mg "range" = none) (h : VXs X b W [e1, e2] ta) (hs : starEach [e1, e2] X.env = [(false, eval e1 X.env), (false, eval e2 X.env)] := by rfl) (hs2 : starEach [e2] X.env = [(false, eval e2 X.env)] := by rfl) :
    VI X b W tg (.Call (.Name "range" p) [e1, e2] [] pos) (iR2 ta) := pi_rng2 hg hm h hs hs2
theorem vib_range2 (hg : Gl X "range") (hm : X.mg "range" = none) (h : VXs X b W [e1, e2] ta) (hs : starEach [e1, e2] X.env = [(false, eval e1 X.env), (false, eval e2 X.env)] := by rfl) (hs2 : starEach [e2] X.env = [(false, eval e2 X.env)] := by rfl) :
    VIb X b W tg (.Call (.Name "range" p) [e1, e2] [] pos) (iR2 ta) := pi_rng2 hg hm h hs hs2
end
end VL
set_option Elab.async false
set_option linter.all false
set_option maxRecDepth 100000
set_option maxHeartbeats 4000000
namespace VL
open PySem PySem.Spec PyProof.Rows L2

/-! ### from a loop's start on -/
section
variable {b : Bg} {W : WX} {H0 : Hp} {M Zo Z Z' : Addr → Prop} {σ σ' : L2.St} {H H' : Hp} {ρ ρ' : VEnv} {De : VEnds} {Dn : Ends}
/-- what a loop may write: its def's own objects -/
abbrev Mo (Zo Z : Addr → Prop) : Addr → Prop := fun a => Z a ∧ ¬ Zo a
theorem VOk.here (v : VOk b Zo Z σ H ρ) : FOk b H (Mo Zo Z) Zo Z σ H ρ :=
  ⟨v, fun _ _ e _ _ => e, fun i d a h1 h2 => by
    obtain ⟨c, h3, h4, h5, _⟩ := v.own i d h1
    rw [h2] at h3; cases h3
    exact .inl ⟨h4, h5⟩⟩
theorem FOk.mine (f : FOk b H0 M Zo Z σ H ρ) {a : Addr} (h : Mo Zo Z a) : M a ∨ H0 a = none := by
  rcases f.v.zi a h.1 with z | ⟨i, d, h1, h2⟩
  · exact absurd z h.2
  · exact f.fr i d a h1 h2
theorem FOk.extBack (f : FOk b H0 M Zo Z σ H ρ) (x : ∀ a o, H a = some o → ¬ b.B a → ¬ Mo Zo Z a → H' a = some o) : ∀ a o, H0 a = some o → ¬ b.B a → ¬ M a → H' a = some o := fun a o e nb nm =>
  x a o (f.ext a o e nb nm) nb fun mo => by
    rcases f.mine mo with z | z
    · exact nm z
    · rw [e] at z; cases z
theorem FOk.back (f : FOk b H0 M Zo Z σ H ρ) (f' : FOk b H (Mo Zo Z) Zo Z' σ' H' ρ') : FOk b H0 M Zo Z' σ' H' ρ' :=
  ⟨f'.v, f.extBack f'.ext, fun i d a h1 h2 => by
    rcases f'.fr i d a h1 h2 with z | z
    · exact f.mine z
    · cases q : H0 a with
      | none => exact .inr rfl
      | some o =>
        by_cases hb : b.B a
        · exact absurd z (b.dom _ _ f.v.g hb)
        · by_cases hm : M a
          · exact .inl hm
          · rw [f.ext a o q hb hm] at z; cases z⟩
theorem Lk.here (l : Lk b W H0 M Zo De Dn) (f : FOk b H0 M Zo Z σ H ρ) : Lk b W H (Mo Zo Z) Zo De Dn where
  nx := fun Z' σ' H' ρ' f' q => l.nx Z' σ' H' ρ' (f.back f') q
  rt := fun v H' d x g r q => l.rt v H' d (f.extBack x) g r q
  bk := fun Z' σ' H' ρ' f' q => l.bk Z' σ' H' ρ' (f.back f') q
  ct := fun Z' σ' H' ρ' f' q => l.ct Z' σ' H' ρ' (f.back f') q
  ex := fun c x Z' σ' H' ρ' er f' r q => l.ex c x Z' σ' H' ρ' er (f.back f') r q
/-- what is owned later was owned at the start, or is new -/
theorem FOk.young (f : FOk b H (Mo Zo Z) Zo Z' σ' H' ρ') (v : VOk b Zo Z σ H ρ) : ∀ a, Z' a → Z a ∨ H a = none := fun a z => by
  rcases f.v.zi a z with z | ⟨i, d, h1, h2⟩
  · exact .inl (v.zo a z)
  · exact (f.fr i d a h1 h2).imp (·.1) id
end

/-! ### for -/
@[simp] def forGo (g : VTg) (tb : VS) : List D → VEnv → VEnds → Prop
  | [], ρ, De => De.nx ρ
  | d :: ds, ρ, De => g d ρ fun ρ1 => tb ρ1 { De with nx := fun ρ2 => forGo g tb ds ρ2 De, ct := fun ρ2 => forGo g tb ds ρ2 De, bk := De.nx }
@[simp] def sFor (ti : VIt) (g : VTg) (tb : VS) : VS := fun ρ De => ti ρ (fun ds => forGo g tb ds ρ De) (De.ex ρ)
section
variable {X : Cx} {b : Bg} {W : WX} {tg iter : Expr} {body : List Stmt} {ti : VIt} {js : List Nat} {g : VTg} {tb : VS} {pos : Pos}
theorem vs_for (hp : PassesOwn (model X.prog X.w) X.A X.env X.xe) (hc : X.calm = true) (hi : VI X b W tg iter ti) (hg : VG X b tg js g) (hb : VSs X b W body tb)
    (hs : ∀ x, foldedSetIterable iter X.env x = pure x := by intro _; rfl) : VSt X b W (.For tg iter body [] pos) (sFor ti g tb) :=
  ps_mono (ps_for hp hc hi hg hb hs) fun Dn σ H ⟨H0, M, Zo, Z, ρ, De, f, q, l⟩ => ⟨Zo, Z, ρ, _, _, f.v, q, fun J H1 ds x1 g1 wk q1 => by
    have f1 := f.ex x1 g1
    have l1 := l.here f1
    have hZ : ∀ a, ¬ Z a → ¬ b.B a ∧ ¬ Mo Zo Z a := fun a n => ⟨fun z => n (f.v.zo _ (f.v.zb a z)), fun z => n z.1⟩
    refine ⟨fun i m σ' H' => m = ds.length - i ∧ i ≤ ds.length ∧ ∃ Z' ρ', FOk b H1 (Mo Zo Z) Zo Z' σ' H' ρ' ∧ forGo g tb (ds.drop i) ρ' De, ⟨ds.length, by simp, Nat.zero_le _, Z, ρ, f1.v.here, q1⟩, ?_⟩
    rintro i m σ' H' ⟨rfl, hi, Z', ρ', f', q'⟩
    have st : ∀ a o, H1 a = some o → ¬ Z a → H' a = some o := fun a o e n => f'.ext a o e (hZ a n).1 (hZ a n).2
    by_cases hlt : i < ds.length
    · rw [List.drop_eq_getElem_cons hlt] at q'
      obtain ⟨go, yl⟩ := wk.go i ds[i] H' (List.getElem?_eq_getElem hlt) st f'.v.g
      refine .inr ⟨go, fun σ2 H2 => ∃ Z2 ρ2, FOk b H1 (Mo Zo Z) Zo Z2 σ2 H2 ρ2 ∧ forGo g tb (ds.drop (i + 1)) ρ2 De, fun σ2 H2 h2 => ⟨ds.length - (i + 1), by omega, rfl, hlt, h2⟩, fun v H3 y => ?_⟩
      obtain ⟨x3, g3, r3⟩ := yl v H3 y
      refine ⟨H1, Mo Zo Z, Zo, Z', ρ', _, _, f'.ex x3 g3, r3 Z' (f'.young f1.v) f'.v.dom, q', fun Z4 σ4 ρ4 _ _ f4 q4 => ?_⟩
      exact ⟨H1, Mo Zo Z, Zo, Z4, ρ4, _, f4, q4, ⟨fun Z5 σ5 H5 ρ5 f5 q5 => ⟨Z5, ρ5, f5, q5⟩, l1.rt, fun Z5 σ5 H5 ρ5 f5 q5 => l1.nx Z5 σ5 H5 ρ5 f5 q5, fun Z5 σ5 H5 ρ5 f5 q5 => ⟨Z5, ρ5, f5, q5⟩, l1.ex⟩⟩
    · have e : ds.length = i := by omega
      rw [List.drop_eq_nil_of_le (by omega)] at q'
      exact .inl ⟨wk.stop i H' e st, l1.nx Z' σ' H' ρ' f' q'⟩, l.er f⟩
/-! ### while -/
def sWhile (c : VB) (tb : VS) : VS := fun ρ De => ∃ Iv : Nat → VEnv → Prop, (∃ m, Iv m ρ) ∧ ∀ m ρ, Iv m ρ →
  c ρ (fun k => if k = true then tb ρ { De with nx := fun ρ' => ∃ m', m' < m ∧ Iv m' ρ', ct := fun ρ' => ∃ m', m' < m ∧ Iv m' ρ', bk := De.nx } else De.nx ρ) (De.ex ρ)
theorem vs_while {c : Expr} {tc : VB} (hp : PassesOwn (model X.prog X.w) X.A X.env X.xe) (hc : VTe X b W c tc) (hb : VSs X b W body tb) : VSt X b W (.While c body [] pos) (sWhile tc tb) :=
  ps_mono (ps_while hp hc hb) fun Dn σ H ⟨H0, M, Zo, Z, ρ, De, f, ⟨Iv, ⟨m0, i0⟩, turn⟩, l⟩ => by
    refine ⟨fun m σ' H' => ∃ Z' ρ', FOk b H0 M Zo Z' σ' H' ρ' ∧ Iv m ρ', ⟨m0, Z, ρ, f, i0⟩, ?_⟩
    rintro m σ' H' ⟨Z', ρ', f', q'⟩
    refine ⟨Zo, Z', ρ', _, _, f'.v, turn m ρ' q', fun k H2 x g q2 => ?_, l.er f'⟩
    cases k with
    | true =>
      refine ⟨fun σ3 H3 => ∃ m', m' < m ∧ ∃ Z3 ρ3, FOk b H0 M Zo Z3 σ3 H3 ρ3 ∧ Iv m' ρ3, fun σ3 H3 ⟨m', hm, h3⟩ => ⟨m', hm, h3⟩, ?_⟩
      exact ⟨H0, M, Zo, Z', ρ', _, f'.ex x g, q2, ⟨fun Z5 σ5 H5 ρ5 f5 ⟨m', hm, q5⟩ => ⟨m', hm, Z5, ρ5, f5, q5⟩, l.rt, fun Z5 σ5 H5 ρ5 f5 q5 => l.nx Z5 σ5 H5 ρ5 f5 q5, fun Z5 σ5 H5 ρ5 f5 ⟨m', hm, q5⟩ => ⟨m', hm, Z5, ρ5, f5, q5⟩, l.ex⟩⟩
    | false => exact l.nx Z' σ' H2 ρ' (f'.ex x g) q2
end

/-! ### list comprehensions -/
abbrev noW : WX := fun _ _ _ _ => False
abbrev noE : Er → Prop := fun _ => False
@[simp] def wipeE (ρ : VEnv) : List Nat → VEnv
  | [] => ρ
  | v :: vs => (wipeE ρ vs).set v .un
@[simp] def wYes : VB := fun _ Q _ => Q true
@[simp] def lcGo (g : VTg) (tt : VB) (te : VT) (Q : D → Prop) : List D → List PyData → VEnv → Prop
  | [], acc, _ => Q (.py (.list acc))
  | d :: ds, acc, ρ => g d ρ fun ρ1 => tt ρ1 (fun k => if k = true then te ρ1 (fun y => ∃ p, y = .py p ∧ acc.length < sizeLine ∧ lcGo g tt te Q ds (acc ++ [p]) ρ) noE else lcGo g tt te Q ds acc ρ) noE
/-- no slot of these is owned -/
@[simp] def noOwn (ρ : VEnv) (vs : List Nat) : Prop := ∀ i ∈ vs, ∀ d, ρ[i]? ≠ some (.own d)
@[simp] def vLc (vs : List Nat) (ti : VIt) (g : VTg) (tt : VB) (te : VT) : VT := fun ρ Q E => noOwn ρ vs ∧ ti ρ (fun ds => lcGo g tt te Q ds [] (wipeE ρ vs)) E
theorem wipeE_len (ρ : VEnv) : ∀ vs : List Nat, (wipeE ρ vs).length = ρ.length
  | [] => rfl
  | v :: vs => by unfold wipeE; rw [List.length_set, wipeE_len ρ vs]
theorem wipeE_in {ρ : VEnv} {i : Nat} {s : Slot} : ∀ {vs : List Nat}, (wipeE ρ vs)[i]? = some s → (s = .un ∧ i ∈ vs) ∨ (ρ[i]? = some s ∧ i ∉ vs)
  | [], h => .inr ⟨h, by simp⟩
  | v :: vs, h => by
    unfold wipeE at h
    by_cases hi : v = i
    · subst hi
      by_cases hv : v < (wipeE ρ vs).length
      · rw [List.getElem?_set_self hv] at h; cases h; exact .inl ⟨rfl, List.mem_cons_self⟩
      · rw [List.getElem?_eq_none (by rw [List.length_set]; omega)] at h; cases h
    · rw [List.getElem?_set_ne hi] at h
      rcases wipeE_in h with ⟨h1, h2⟩ | ⟨h1, h2⟩
      · exact .inl ⟨h1, List.mem_cons_of_mem _ h2⟩
      · exact .inr ⟨h1, fun m => by
          rcases List.mem_cons.mp m with e | m
          · exact hi e.symm
          · exact h2 m⟩
theorem wipeE_out {ρ : VEnv} {i : Nat} {s : Slot} (h : ρ[i]? = some s) : ∀ {vs : List Nat}, i ∉ vs → (wipeE ρ vs)[i]? = some s
  | [], _ => h
  | v :: vs, hn => by
    unfold wipeE
    rw [List.getElem?_set_ne (fun e => hn (by rw [e]; exact List.mem_cons_self))]
    exact wipeE_out h fun m => hn (List.mem_cons_of_mem _ m)
theorem wipe_same {σ σ' : L2.St} {ρ ρ' : VEnv} {js : List Nat} (s : Same js σ σ' ρ ρ') : ∀ {vs : List Nat}, (∀ j ∈ js, j ∈ vs) → wipe σ' vs = wipe σ vs := fun {vs} h => by
  have wo : ∀ (τ : L2.St) (j : Nat) (vs : List Nat), j ∉ vs → (wipe τ vs)[j]? = τ[j]? := fun τ j vs => by
    induction vs with
    | nil => intro _; rfl
    | cons v vs ih =>
      intro hn
      show ((wipe τ vs).set v none)[j]? = _
      rw [List.getElem?_set_ne (fun e => hn (by rw [e]; exact List.mem_cons_self))]
      exact ih fun m => hn (List.mem_cons_of_mem _ m)
  have wi : ∀ (τ : L2.St) (j : Nat) (vs : List Nat), j ∈ vs → (wipe τ vs)[j]? = if j < τ.length then some none else none := fun τ j vs => by
    induction vs with
    | nil => intro h; cases h
    | cons v vs ih =>
      intro hm
      show ((wipe τ vs).set v none)[j]? = _
      by_cases e : v = j
      · subst e
        by_cases hl : v < τ.length
        · rw [List.getElem?_set_self (by rw [wipe_length]; exact hl), if_pos hl]
        · rw [List.getElem?_eq_none (by rw [List.length_set, wipe_length]; omega), if_neg hl]
      · rw [List.getElem?_set_ne e]
        exact ih ((List.mem_cons.mp hm).resolve_left fun q => e q.symm)
  apply List.ext_getElem?
  intro j
  by_cases hj : j ∈ vs
  · rw [wi σ' j vs hj, wi σ j vs hj, s.len]
  · rw [wo σ' j vs hj, wo σ j vs hj]
    exact s.out j fun m => hj (h j m)
theorem VOk.wiped {b : Bg} {Zo Z : Addr → Prop} {σ : L2.St} {H : Hp} {ρ : VEnv} (v : VOk b Zo Z σ H ρ) {vs : List Nat} (hn : noOwn ρ vs) : VOk b Zo Z (wipe σ vs) H (wipeE ρ vs) where
  g := v.g
  zb := v.zb
  zo := v.zo
  dom := v.dom
  zi := fun a z => by
    rcases v.zi a z with z | ⟨i, d, h1, h2⟩
    · exact .inl z
    · have hi : i ∉ vs := fun m => hn i m d h1
      exact .inr ⟨i, d, wipeE_out h1 hi, by rw [wipe_out hi]; exact h2⟩
  own := fun i d h => by
    rcases wipeE_in h with ⟨h1, _⟩ | ⟨h1, hi⟩
    · cases h1
    · obtain ⟨a, h2, h3⟩ := v.own i d h1
      exact ⟨a, by rw [wipe_out hi]; exact h2, h3⟩
  inj := fun i j d e a h1 h2 h3 h4 => by
    rcases wipeE_in h1 with ⟨q, _⟩ | ⟨h1, hi⟩
    · cases q
    · rcases wipeE_in h2 with ⟨q, _⟩ | ⟨h2, hj⟩
      · cases q
      · rw [wipe_out hi] at h3
        rw [wipe_out hj] at h4
        exact v.inj i j d e a h1 h2 h3 h4
  shr := fun i d h => by
    rcases wipeE_in h with ⟨h1, _⟩ | ⟨h1, hi⟩
    · cases h1
    · obtain ⟨u, h2, h3⟩ := v.shr i d h1
      exact ⟨u, by rw [wipe_out hi]; exact h2, h3⟩
  len := by rw [wipeE_len, wipe_length]; exact v.len
section
variable {b : Bg} {Z : Addr → Prop} {H : Hp} {a : Addr}
/-- one more address to be avoided: nothing that is known reaches a new one -/
theorem Rp.apart (ha : H a = none) {o : HO} {v : V} {d : D} (r : Rp b Z H v d) : Rp b (fun c => Z c ∨ c = a) (upd H a o) v d :=
  r.mono (fun c z => z.imp id fun e => by rw [e]; exact ha) fun c u e _ => by rw [upd_ne (ne_of_none e ha)]; exact e
theorem Ow.apart (ha : H a = none) {o : HO} {c : Addr} {d : D} (r : Ow b Z H c d) : Ow b (fun c => Z c ∨ c = a) (upd H a o) c d :=
  r.mono (fun c z => z.imp id fun e => by rw [e]; exact ha) (fun c u e _ => by rw [upd_ne (ne_of_none e ha)]; exact e) fun u e => by rw [upd_ne (ne_of_none e ha)]; exact e
theorem VOk.apart {Zo : Addr → Prop} {σ : L2.St} {ρ : VEnv} (v : VOk b Zo Z σ H ρ) (ha : H a = none) {o : HO} : VOk b (fun c => Zo c ∨ c = a) (fun c => Z c ∨ c = a) σ (upd H a o) ρ where
  g := Bg.new v.g ha
  zb := fun c z => .inl (v.zb c z)
  zo := fun c z => z.imp (v.zo c) id
  dom := fun c z => by
    by_cases e : c = a
    · rw [e, upd_same]; simp
    · rw [upd_ne e]; exact v.dom c (z.resolve_right e)
  zi := fun c z => z.elim (fun z => (v.zi c z).imp .inl id) fun e => .inl (.inr e)
  own := fun i d e => by
    obtain ⟨c, h1, h2, h3, h4⟩ := v.own i d e
    exact ⟨c, h1, .inl h2, fun z => z.elim h3 fun q => v.dom c h2 (by rw [q]; exact ha), h4.apart ha⟩
  inj := v.inj
  shr := fun i d e => by
    obtain ⟨u, h1, h2⟩ := v.shr i d e
    exact ⟨u, h1, h2.apart ha⟩
  len := v.len
/-- an object that is an outer one's is written: nothing here reaches it -/
theorem VOk.outer {Zo : Addr → Prop} {σ : L2.St} {ρ : VEnv} (v : VOk b Zo Z σ H ρ) (ha : Zo a) (nb : ¬ b.B a) {o : HO} : VOk b Zo Z σ (upd H a o) ρ := by
  have keep : ∀ c u, H c = some u → ¬ Z c → upd H a o c = some u := fun c u e n => by rw [upd_ne (fun q => n (by rw [q]; exact v.zo a ha))]; exact e
  refine ⟨b.loc H _ (fun c hc => upd_ne fun q => nb (by rw [← q]; exact hc)) v.g, v.zb, v.zo, fun c z => ?_, v.zi, fun i d e => ?_, v.inj, fun i d e => ?_, v.len⟩
  · by_cases q : c = a
    · rw [q, upd_same]; simp
    · rw [upd_ne q]; exact v.dom c z
  · obtain ⟨c, h1, h2, h3, h4⟩ := v.own i d e
    exact ⟨c, h1, h2, h3, h4.mono (fun _ z => .inl z) keep fun u e => by rw [upd_ne (fun q => h3 (by rw [q]; exact ha))]; exact e⟩
  · obtain ⟨u, h1, h2⟩ := v.shr i d e
    exact ⟨u, h1, h2.mono (fun _ z => .inl z) keep⟩
theorem Wk.imp {Y : Addr → Prop} {J : It} {ds : List D} (w : Wk b Y Z H J ds) {H' : Hp} {Z' : Addr → Prop} (hz : ∀ a, Z' a → Z a ∨ H a = none) (hx : ∀ a o, H a = some o → ¬ Y a → H' a = some o) (hn : ∀ a, H' a = none → H a = none) : Wk b Y Z' H' J ds where
  go := fun k d H2 h1 h2 g => by
    obtain ⟨q1, q2⟩ := w.go k d H2 h1 (fun a o e n => h2 a o (hx a o e n) n) g
    exact ⟨q1, fun v H3 y => ⟨(q2 v H3 y).1, (q2 v H3 y).2.1, fun Z2 z1 z2 => (q2 v H3 y).2.2 Z2 (fun a z => (z1 a z).elim (hz a) fun e => .inr (hn a e)) z2⟩⟩
  stop := fun k H2 h1 h2 => w.stop k H2 h1 fun a o e n => h2 a o (hx a o e n) n
end
section
variable {b : Bg} {W : WX} {ti : VIt} {js : List Nat} {g : VTg} {tt : VB} {te : VT} {vs : List Nat}
theorem lc_sound (hjs : ∀ j ∈ js, j ∈ vs) : ∀ σ H Q, LE b W (RN b) (vLc vs ti g tt te) σ H Q → tLc (LI b W (fun _ => b.B) ti) (LG b js g) (LB b noW tt) (LE b noW (RE b) te) vs σ H Q :=
  fun σ H Q ⟨Zo, Z, ρ, Qd, Ed, v, ⟨hno, q⟩, l, m⟩ => ⟨Zo, Z, ρ, _, _, v, q, fun J H1 ds x1 g1 wk q1 => by
    intro A hA
    have v1 := v.ex x1 g1
    have nzA : ¬ Z A := v1.fresh hA
    have nbA : ¬ b.B A := v1.nb nzA
    have hA0 : H A = none := none_back g1 x1 A hA
    have v2 := (v1.apart hA (o := .lst [])).wiped hno
    -- the invariant
    let Iv : Nat → Hp → Prop := fun i H' => ∃ xs acc, H' A = some (.lst xs) ∧ Rqs (fun c => Z c ∨ c = A) H' xs acc ∧ VOk b (fun c => Zo c ∨ c = A) (fun c => Z c ∨ c = A) (wipe σ vs) H' (wipeE ρ vs) ∧ (∀ a o, H1 a = some o → ¬ b.B a → H' a = some o) ∧ lcGo g tt te Qd (ds.drop i) acc (wipeE ρ vs)
    refine ⟨fun i m H' => m = ds.length - i ∧ i ≤ ds.length ∧ Iv i H', ⟨ds.length, by simp, Nat.zero_le _, [], [], upd_same, .nil, v2, fun a o e _ => by rw [upd_ne (ne_of_none e hA)]; exact e, q1⟩, ?_⟩
    rintro i m H' ⟨rfl, hi, xs, acc, hx, rx, v', st, q'⟩
    by_cases hlt : i < ds.length
    · rw [List.drop_eq_getElem_cons hlt] at q'
      obtain ⟨go, yl⟩ := wk.go i ds[i] H' (List.getElem?_eq_getElem hlt) st v'.g
      refine .inr ⟨go, Iv (i + 1), fun H2 h2 => ⟨ds.length - (i + 1), by omega, rfl, hlt, h2⟩, fun w H3 y => ?_⟩
      obtain ⟨x3, g3, r3⟩ := yl w H3 y
      have v3 := v'.ex x3 g3
      refine ⟨H3, fun _ => True, _, _, _, ds[i], _, ⟨v3, fun _ _ e _ _ => e, fun _ _ _ _ _ => .inl trivial⟩, r3 _ (fun a z => z.imp id fun e => by rw [e]; exact hA) v'.dom, q', fun Z4 σ4 ρ4 sub sm f4 q4 => ?_⟩
      have ww : wipe (wipe σ vs) vs = wipe σ vs := wipe_same (js := vs) (σ := σ) (ρ := ρ) (ρ' := ρ) ⟨by rw [wipe_length], fun j hj => wipe_out hj, fun _ _ => rfl⟩ fun j h => h
      refine ⟨(wipe_same sm hjs).trans ww, ?_⟩
      have st3 : ∀ a o, H1 a = some o → ¬ b.B a → H3 a = some o := fun a o e n => x3 a o (st a o e n) n
      have hx3 : H3 A = some (.lst xs) := x3 A _ hx nbA
      refine ⟨_, _, _, _, _, f4.v, q4, fun k H5 x5 g5 q5 => ?_, fun c z H5 er _ _ _ h => h.elim⟩
      have st5 : ∀ a o, H1 a = some o → ¬ b.B a → H5 a = some o := fun a o e n => x5 a o (st3 a o e n) n
      have hx5 : H5 A = some (.lst xs) := x5 A _ hx3 nbA
      have v5 := v3.ex x5 g5
      have rx5 : Rqs (fun c => Z c ∨ c = A) H5 xs acc := v3.rqs x5 (v'.rqs x3 rx)
      cases k with
      | false => exact ⟨xs, acc, hx5, rx5, v5, st5, q5⟩
      | true =>
        refine ⟨_, _, _, _, _, f4.v.ex x5 g5, q5, fun u H6 d6 x6 g6 r6 ⟨p, ep, hz, q6⟩ => ?_, fun c z H6 er _ _ _ h => h.elim⟩
        subst ep
        have hx6 : H6 A = some (.lst xs) := x6 A _ hx5 nbA
        have rx6 := v5.rqs x6 rx5
        have v6 := v5.ex x6 g6
        have zo4 : ∀ c, (Zo c ∨ c = A) → Z4 c := f4.v.zo
        have r7 : Rq (fun c => Z c ∨ c = A) H6 u p := by
          refine Rq.mono (fun c z => ?_) (fun _ _ e _ => e) r6
          -- what the block's names own is what the def owns
          rcases v'.zi c z with z' | ⟨j, dj, h1, h2⟩
          · exact .inl (zo4 c z')
          · rcases wipeE_in h1 with ⟨h1, _⟩ | ⟨h1, hj⟩
            · cases h1
            · have hj' : j ∉ js := fun m => hj (hjs j m)
              have e4 := sm.env j hj'
              rw [wipeE_out h1 hj] at e4
              obtain ⟨c', h3, h4, _⟩ := f4.v.own j dj e4
              rw [sm.out j hj', h2] at h3
              cases h3
              exact .inl h4
        refine ⟨xs, hx6, by rw [rx6.length]; exact hz, xs ++ [u], acc ++ [p], upd_same, ?_, v6.outer (.inr rfl) nbA, fun a o e n => ?_, q6⟩
        · have mv : ∀ c o, H6 c = some o → ¬ (Z c ∨ c = A) → upd H6 A (.lst (xs ++ [u])) c = some o := fun c o e n => by rw [upd_ne (fun q => n (.inr q))]; exact e
          exact (rx6.mono (fun _ z => .inl z) mv).append (.cons (Rq.mono (fun _ z => .inl z) mv r7) .nil)
        · rw [upd_ne (ne_of_none e hA)]
          exact x6 a o (st5 a o e n) n
    · have e : ds.length = i := by omega
      rw [List.drop_eq_nil_of_le (by omega)] at q'
      refine .inl ⟨wk.stop i H' e st, ?_⟩
      have xx : Ex b H H' := fun a o e n => st a o (x1 a o e n) n
      exact l _ H' (.py (.list acc)) xx v'.g ⟨A, rfl, hA0, xs, hx, rx⟩ q', m⟩
end
section
variable {X : Cx} {b : Bg} {W : WX} {tg iter elt c : Expr} {ifs : List Expr} {scope : Scope} {own : List (Str × Nat)} {pos spos py : Pos} {ti : VIt} {js : List Nat} {g : VTg} {tt : VB} {te : VT} {i : Nat} {y : Str}
/-- a block's tests -/
def VTs (X : Cx) (b : Bg) (ifs : List Expr) (t : VB) : Prop := PTs X ifs (LB b noW t)
theorem pts_mono {t t' : TT} (h : PTs X ifs t) (m : ∀ σ H Q, t' σ H Q → t σ H Q) : PTs X ifs t' := ⟨fun pins s σ H Q I q => h.run pins s σ H Q I (m σ H Q q)⟩
theorem vts_nil : VTs X b [] wYes := pts_mono pts_nil fun σ H Q ⟨Zo, Z, ρ, Qd, Ed, v, q, l, _⟩ => l true H Ex.refl v.g q
theorem vts_one (h : VTe X b noW c tt) : VTs X b [c] tt := pts_one h
theorem vn_lc (hc : X.calm = true) (hN : X.N.Nodup) (hi : VIb X b W tg iter ti) (ok : BlkOk X.N X.env.scope scope own) (hjs : ∀ j ∈ js, j ∈ own.map (·.2))
    (hg : ∀ (s : Shared) (H : Hp) (C : Addr) (cl : List (Str × Addr)) (fp : List Addr), VG (X.blk s H scope (compEnvC scope cl C X.env) fp) b tg js g) (ht : ∀ (s : Shared) (H : Hp) (C : Addr) (cl : List (Str × Addr)) (fp : List Addr), VTs (X.blk s H scope (compEnvC scope cl C X.env) fp) b ifs tt)
    (he : ∀ (s : Shared) (H : Hp) (C : Addr) (cl : List (Str × Addr)) (fp : List Addr), VE (X.blk s H scope (compEnvC scope cl C X.env) fp) b noW elt te) (hs : ∀ x, foldedSetIterable iter X.env x = pure x := by intro _; rfl) :
    VN X b W (.ListComp elt [⟨tg, iter, ifs, 0⟩] scope pos) (vLc (own.map (·.2)) ti g tt te) :=
  pe_mono (pe_lc hc hN hi ok hg ht he hs) (lc_sound hjs)
theorem vs_setLc (hc : X.calm = true) (hN : X.N.Nodup) (hy : X.N[i]? = some y) (hyl : X.env.scope.names.lookup y = some .local) (hsw : swapsWith (.ListComp elt [⟨tg, iter, ifs, 0⟩] scope pos) (some (.Name y py)) spos.line X.env = pure true)
    (hi : VIb X b W tg iter ti) (ok : BlkOk X.N X.env.scope scope own) (hjs : ∀ j ∈ js, j ∈ own.map (·.2))
    (hg : ∀ (s : Shared) (H : Hp) (C : Addr) (cl : List (Str × Addr)) (fp : List Addr), VG (X.blk s H scope (compEnvC scope cl C X.env) fp) b tg js g) (ht : ∀ (s : Shared) (H : Hp) (C : Addr) (cl : List (Str × Addr)) (fp : List Addr), VTs (X.blk s H scope (compEnvC scope cl C X.env) fp) b ifs tt)
    (he : ∀ (s : Shared) (H : Hp) (C : Addr) (cl : List (Str × Addr)) (fp : List Addr), VE (X.blk s H scope (compEnvC scope cl C X.env) fp) b noW elt te) (hs : ∀ x, foldedSetIterable iter X.env x = pure x := by intro _; rfl) :
    VSt X b W (.Assign [.Name y py] (.ListComp elt [⟨tg, iter, ifs, 0⟩] scope pos) spos) (sSetN i (vLc (own.map (·.2)) ti g tt te)) :=
  vs_setN (ps_setLc hc hN hy hyl hsw hi ok hg ht he hs) (lc_sound hjs)
end
end VL
set_option Elab.async false
set_option linter.all false
set_option maxRecDepth 100000
set_option maxHeartbeats 4000000
namespace VL
open PySem PySem.Spec PyProof.Rows L2

/-! ### what a def promises, by values -/
abbrev SV := List D → (D → Prop) → (Er → Prop) → Prop
def spV (b : Bg) (S : SV) : Sp := fun vs H Q E => ∃ Z ds Qd Ed, Gd b Z H ∧ Rps b Z H vs ds ∧ S ds Qd Ed ∧ (∀ v H' d, Ex b H H' → b.G H' → Rp b Z H' v d → Qd d → Q v H') ∧ ∀ c x H' er, Ex b H H' → b.G H' → ErRp b Z H' c x er → Ed er → E c x H'
/-- the ends of a def's body -/
@[simp] def fin (Q : D → Prop) (E : Er → Prop) : VEnds := { nx := fun _ => Q (.py .none), rt := Q, bk := fun _ => False, ct := fun _ => False, ex := fun _ => E }
/-- the names' values at the entry -/
@[simp] def envOf (n : Nat) (ds : List D) : VEnv := ds.map Slot.shr ++ List.replicate (n - ds.length) .un
theorem Rps.at {b : Bg} {Z : Addr → Prop} {H : Hp} : ∀ {vs : List V} {ds : List D} {i : Nat} {d : D}, Rps b Z H vs ds → ds[i]? = some d → ∃ v, vs[i]? = some v ∧ Rp b Z H v d
  | _, _, _, _, .nil, e => by simp at e
  | _, _, 0, _, .cons r _, e => by simp at e; subst e; exact ⟨_, rfl, r⟩
  | _, _, i + 1, _, .cons _ t, e => by
    obtain ⟨y, h1, h2⟩ := Rps.at (i := i) t (by simpa using e)
    exact ⟨y, by simpa using h1, h2⟩
theorem envOf_at {n i : Nat} {ds : List D} {s : Slot} (h : (envOf n ds)[i]? = some s) : s = .un ∨ ∃ d, s = .shr d ∧ ds[i]? = some d := by
  unfold envOf at h
  by_cases hi : i < ds.length
  · rw [List.getElem?_append_left (by simpa using hi), List.getElem?_map] at h
    cases e : ds[i]? with
    | none => rw [e] at h; cases h
    | some d => rw [e] at h; cases h; exact .inr ⟨d, rfl, rfl⟩
  · rw [List.getElem?_append_right (by simpa using hi), List.getElem?_replicate] at h
    split at h
    · cases h; exact .inl rfl
    · cases h
theorem VOk.entry {b : Bg} {Z : Addr → Prop} {H : Hp} {N : List Str} {vs : List V} {ds : List D} (g : Gd b Z H) (r : Rps b Z H vs ds) (hl : vs.length ≤ N.length) : VOk b Z Z (L2.start N vs) H (envOf N.length ds) where
  g := g.g
  zb := g.zb
  zo := fun _ z => z
  dom := g.dom
  zi := fun _ z => .inl z
  own := fun i d e => by
    rcases envOf_at e with h | ⟨d', h, _⟩ <;> cases h
  inj := fun i j d e a h1 _ _ _ => by
    rcases envOf_at h1 with h | ⟨d', h, _⟩ <;> cases h
  shr := fun i d e => by
    rcases envOf_at e with h | ⟨d', h, hd⟩
    · cases h
    · cases h
      obtain ⟨v, hv, rv⟩ := r.at hd
      refine ⟨v, ?_, rv⟩
      unfold L2.start
      have hi : i < vs.length := (List.getElem?_eq_some_iff.mp hv).1
      rw [List.getElem?_append_left (by simpa using hi), List.getElem?_map, hv]
      rfl
  len := by
    unfold envOf L2.start
    rw [List.length_append, List.length_map, List.length_replicate, List.length_append, List.length_map, List.length_replicate, ← r.length]
abbrev WF (E : XK) : WX := fun c d _ H => E c d H
section
variable {P : Program} {w : World} {K : PySem.W.Frag} {mg : Str → Option Value} {base : Heap} {b : Bg} {k : Nat} {x qual : Str} {st : Stmt} {f : Addr} {fd : FuncData} {N ps : List Str} {S : SV}
theorem fin_link {t : VS} {H : Hp} {vs : List V} {Q : VK} {E : XK} (hlaw : ∀ ds Q E, S ds Q E → t (envOf N.length ds) (fin Q E)) (hl : vs.length ≤ N.length) (h : spV b S vs H Q E) :
    LS b (WF E) t { nx := fun _ H' => Q .non H', rt := Q } (L2.start N vs) H := by
  obtain ⟨Z, ds, Qd, Ed, g, r, s, l, m⟩ := h
  have x : ∀ {H'}, (∀ a o, H a = some o → ¬ b.B a → ¬ False → H' a = some o) → Ex b H H' := fun h a o e n => h a o e n not_false
  refine ⟨H, fun _ => False, Z, Z, envOf N.length ds, fin Qd Ed, ⟨VOk.entry g r hl, fun _ _ e _ _ => e, fun i d a e _ => ?_⟩, hlaw ds Qd Ed s, ⟨fun Z' σ' H' ρ' f' q => l .non H' (.py .none) (x f'.ext) f'.v.g Rq.non q, fun v H' d x1 g1 r1 q => l v H' d (x x1) g1 r1 q, fun _ _ _ _ _ q => q.elim, fun _ _ _ _ _ q => q.elim, fun c y Z' σ' H' ρ' er f' r' q => m c y H' er (x f'.ext) f'.v.g ?_ q⟩⟩
  · rcases envOf_at e with h | ⟨d', h, _⟩ <;> cases h
  · obtain ⟨h1, h2⟩ := r'
    refine ⟨h1, h2.imp id ?_⟩
    rintro ⟨a, xs, e1, e2, e3, e4⟩
    exact ⟨a, xs, e1, e2, fun z => e3 (f'.v.zo a z), e4.mono (fun c z => .inl (f'.v.zo c z)) fun _ _ e _ => e⟩
/-- a def of the text, by its body -/
theorem fnV (F : Fun K x qual st f fd) (Sc : FnScope N ps (defScope st)) {t : VS} (hlen : ∀ ds Q E, S ds Q E → ds.length = ps.length) (hps : ps.length ≤ N.length)
    (hbody : ∀ (cdv : Value) (A : Around) (outer : List Env) (s : Shared) (H : Hp) (E : XK), Room k (A.deeper (envOfC qual (defScope st) s.heap.objs.size f cdv)) →
      Takes (cxOf (L2.CX P w) P w K mg base N qual (defScope st) f cdv A outer s H E) (WF E) → VSs (cxOf (L2.CX P w) P w K mg base N qual (defScope st) f cdv A outer s H E) b (WF E) (defBody st) t)
    (hlaw : ∀ ds Q E, S ds Q E → t (envOf N.length ds) (fin Q E)) : FnOk P w K mg base (L2.CX P w) (k + 1) f fd ps (spV b S) := by
  have len : ∀ vs H Q E, spV b S vs H Q E → vs.length = ps.length := fun vs H Q E ⟨Z, ds, Qd, Ed, g, r, s, _⟩ => r.length.trans (hlen ds Qd Ed s)
  refine F.okX Sc len fun cdv A outer s H vs Q E hr h => ⟨_, hbody cdv A outer s H E hr (takes_of rfl rfl rfl rfl), fin_link hlaw (Nat.le_trans (Nat.le_of_eq (len _ _ _ _ h)) hps) h⟩
end
/-! ### calls -/
@[simp] def vCall (S : SV) (u : VA) : VT := fun ρ Q E => u ρ (fun ds => S ds Q E) E
section
variable {X : Cx} {b : Bg} {W : WX} {k : Nat} {f : Addr} {fd : FuncData} {ps : List Str} {S : SV} {x : Str} {e : Expr} {es : List Expr} {u : VA} {p pos : Pos}
theorem call_core {sp : Sp} {t : TA} (hu : t = LA b W u) (hs : sp = spV b S) : ∀ σ H Q, LE b W (RE b) (vCall S u) σ H Q → tCallS sp (WE W) t σ H Q := by
  subst hu hs
  exact fun σ H Q ⟨Zo, Z, ρ, Qd, Ed, v, q, l, m⟩ => ⟨Zo, Z, ρ, _, Ed, v, q, fun vs H1 ds x1 g1 r1 q1 => by
    have v1 := v.ex x1 g1
    exact ⟨Z, ds, Qd, Ed, v1.gd, r1, q1, fun y H2 d x2 g2 r2 q2 => l y H2 d (x1.trans x2) g2 r2 q2, fun c z H2 er x2 g2 r2 q2 => m c z H2 er (x1.trans x2) g2 r2 q2⟩, m⟩
theorem ve_call (F : FnOk X.prog X.w X.K X.mg X.base (L2.CX X.prog X.w) k f fd ps (spV b S)) (hr : Room k X.A) (tk : Takes X W) (hg : Gl X x) (hm : X.mg x = some (.ref f)) (hk : PySem.W.keepIn X.K (.ref f) = true) (hb : Binds X.K fd ps [])
    (ha : VAs X b W (e :: es) u) (hdb : (x == ("__debug__" : Str)) = false := by decide) (he : starEach (e :: es) X.env = (false, eval e X.env) :: starEach es X.env := by rfl) (hpl : (backTo pos (starEach es X.env)).any (·.1) = false := by rfl) :
    VE X b W (.Call (.Name x p) (e :: es) [] pos) (vCall S u) := pe_mono (pe_callS F hr hg hm hk hb (passAt tk) ha hdb he hpl) (call_core rfl rfl)
theorem pe_callS0 {sp : Sp} {E : L2.St → XK} (F : FnOk X.prog X.w X.K X.mg X.base (L2.CX X.prog X.w) k f fd ps sp) (hr : Room k X.A) (hg : Gl X x) (hm : X.mg x = some (.ref f)) (hk : PySem.W.keepIn X.K (.ref f) = true) (hb : Binds X.K fd ps [])
    (hx : ∀ σ, PassesAt (L2.CX X.prog X.w) X σ (E σ)) (hdb : (x == ("__debug__" : Str)) = false := by decide) : PE X (.Call (.Name x p) [] [] pos) (tCallS sp E tNil) :=
  ⟨fun pins s σ H Q I h => wpAny_Call_Name_kw (ld_glob I hg hm (PySem.W.callWith_K0 I.kIn hk (run_fnS (us := []) F hr hb (hx σ) I .nil h)) hdb)⟩
theorem ve_call0 (F : FnOk X.prog X.w X.K X.mg X.base (L2.CX X.prog X.w) k f fd ps (spV b S)) (hr : Room k X.A) (tk : Takes X W) (hg : Gl X x) (hm : X.mg x = some (.ref f)) (hk : PySem.W.keepIn X.K (.ref f) = true) (hb : Binds X.K fd ps [])
    (hdb : (x == ("__debug__" : Str)) = false := by decide) : VE X b W (.Call (.Name x p) [] [] pos) (vCall S vNil) :=
  pe_mono (pe_callS0 F hr hg hm hk hb (passAt tk) hdb) fun σ H Q ⟨Zo, Z, ρ, Qd, Ed, v, q, l, m⟩ => ⟨Z, [], Qd, Ed, v.gd, .nil, q, l, m⟩
/-- a constant of the module -/
theorem ve_glob {v : V} {d : PyData} {uu : Value} (hg : Gl X x) (hm : X.mg x = some uu) (r : RelV v uu) (rd : ∀ (Z : Addr → Prop) (H : Hp), Rq Z H v d) (hd : (x == ("__debug__" : Str)) = false := by decide) : VE X b W (.Name x pos) (vC (.py d)) :=
  ve_const (pe_glob hg hm r hd) rd
end
end VL
set_option Elab.async false
set_option linter.all false
set_option maxRecDepth 100000
set_option maxHeartbeats 4000000
namespace VL
open PySem PySem.Spec PyProof.Rows L2

/-! ### repr of plain data (dicts among it: none of the tracked dicts is the modules' own) -/
section
variable {X : Cx} {pins : List (Addr × Obj)} {σ : L2.St} {H : Hp} {s : Shared} {Z : Addr → Prop}
/-- what is known of a value to be shown -/
structure Shw (P : Program) (w : World) (h : Heap) (u : Value) (d : PyData) : Prop where
  rd : ∃ as, Reads h u d as
  rk : d.showable = true → d.shown.length ≤ sizeLine → ∃ bs, ReadAtMost h d.depth bs ∧ ReprK P w bs h d.depth u d.shown
  top : d.showable = true → d.shown.length ≤ sizeLine → ∀ (A : Around) (E : Value → Shared → Prop) (s : Shared) (Q : Value → Shared → Prop), A.guards = some [] → A.units + (d.depth + 1) < cLine → (∀ b o, h.get? b = some o → s.heap.get? b = some o) →
    (∀ h' u tk, (∀ b o, s.heap.get? b = some o → h'.get? b = some o) → Q (.str d.shown u) { s with heap := h', toks := tk }) → wpAny (model P w) A (call (.builtin "repr") [u]) Q E s
structure ShwA (P : Program) (w : World) (h : Heap) (us : List Value) (ds : List PyData) : Prop where
  rd : ∃ as, ReadsAll h us ds as
  rk : PyData.showableAll ds = true → (∀ t ∈ PyData.shownAll ds, t.length ≤ sizeLine) → ∃ bs, ReadAtMost h (PyData.depthAll ds) bs ∧ ReprAllK P w bs h (PyData.depthAll ds) us (PyData.shownAll ds)
theorem ShwA.nil {P : Program} {w : World} {h : Heap} : ShwA P w h [] [] := ⟨⟨_, .nil⟩, fun _ _ => ⟨[], (fun _ m => nomatch m), by simp only [PyData.shownAll]; exact .nil⟩⟩
theorem ShwA.cons {P : Program} {w : World} {h : Heap} {u : Value} {d : PyData} {us : List Value} {ds : List PyData} (a : Shw P w h u d) (l : ShwA P w h us ds) : ShwA P w h (u :: us) (d :: ds) := by
  refine ⟨?_, fun hs hz => ?_⟩
  · obtain ⟨as, ra⟩ := a.rd
    obtain ⟨bs, rb⟩ := l.rd
    exact ⟨_, .cons ra rb⟩
  · simp only [PyData.showableAll, Bool.and_eq_true] at hs
    simp only [PyData.shownAll] at hz
    obtain ⟨b1, m1, k1⟩ := a.rk hs.1 (hz _ List.mem_cons_self)
    obtain ⟨b2, m2, k2⟩ := l.rk hs.2 fun t ht => hz t (List.mem_cons_of_mem _ ht)
    have e1 : d.depth ≤ max d.depth (PyData.depthAll ds) := Nat.le_max_left _ _
    have e2 : PyData.depthAll ds ≤ max d.depth (PyData.depthAll ds) := Nat.le_max_right _ _
    refine ⟨b1 ++ b2, ?_, ?_⟩
    · simp only [PyData.depthAll]
      exact (m1.mono e1).append (m2.mono e2)
    · simp only [PyData.depthAll, PyData.shownAll]
      exact .cons ((k1.more fun b hb => List.mem_append.mpr (.inl hb)).level_le e1) (k2.more_le (fun b hb => List.mem_append.mpr (.inr hb)) e2)
section
variable {P : Program} {w : World} {h : Heap} {a : Addr} {o : Obj} {n : Nat}
theorem Shw.list {us : List Value} {ds : List PyData} (h1 : h.get? a = some o) (h2 : o.cls = .type "list") (h3 : o.data = .seq us.toArray n) (l : ShwA P w h us ds) : Shw P w h (.ref a) (.list ds) := by
  obtain ⟨as, ra⟩ := l.rd
  have r : Reads h (.ref a) (.list ds) _ := .list h1 h2 h3 ra
  refine ⟨⟨_, r⟩, fun hs hz => ?_, fun hs hz A E s Q hg hu hk hQ => ?_⟩
  rotate_left
  · simp only [PyData.showable] at hs
    simp only [PyData.shown] at hz hQ
    simp only [PyData.depth] at hu
    obtain ⟨bs, mb, kb⟩ := l.rk hs fun t ht => Nat.le_trans (listText_mem_le ht) hz
    have na : a ∉ bs := not_mem_of_deeper r (by simp only [PyData.depth]; omega) mb
    refine call_repr_slot (T := "list") (by omega) ⟨o, hk _ _ h1, h2⟩ F.slot_list_repr.toG ?_
    cases us with
    | nil =>
      cases ra
      simp only [PyData.shownAll, listText_nil] at hQ
      exact call_list_repr_empty ⟨o, hk _ _ h1, h2⟩ (hk _ _ h1) h3 ⟨_, _, rfl, hQ s.heap _ _ fun _ _ e => e⟩
    | cons u us => exact call_list_reprK h1 h2 h3 na (by simpa using kb.length_eq) (fun i y e => kb.item i y (by simpa using e)) hg (fun b _ => Clear.nil b) (by show A.units + 1 + _ < cLine; omega) hk (fun h' u tk kp => ⟨_, _, rfl, hQ h' u tk kp⟩) hz
  simp only [PyData.showable] at hs
  simp only [PyData.shown] at hz
  obtain ⟨bs, mb, kb⟩ := l.rk hs fun t ht => Nat.le_trans (listText_mem_le ht) hz
  have na : a ∉ bs := not_mem_of_deeper r (by simp only [PyData.depth]; omega) mb
  refine ⟨a :: bs, ReadAtMost.cons r (by simp only [PyData.depth]; omega) mb, ?_⟩
  simp only [PyData.depth, PyData.shown]
  cases us with
  | nil =>
    cases ra
    simp only [PyData.shownAll, listText_nil]
    exact ReprK.listEmpty h1 h2 h3
  | cons u us => exact ReprK.list h1 h2 h3 na (by simpa using kb.length_eq) fun i y e => kb.item i y (by simpa using e)
theorem Shw.tuple {us : List Value} {ds : List PyData} (h1 : h.get? a = some o) (h2 : o.cls = .type "tuple") (h3 : o.data = .seq us.toArray n) (l : ShwA P w h us ds) : Shw P w h (.ref a) (.tuple ds) := by
  obtain ⟨as, ra⟩ := l.rd
  have r : Reads h (.ref a) (.tuple ds) _ := .tuple h1 h2 h3 ra
  refine ⟨⟨_, r⟩, fun hs hz => ?_, fun hs hz A E s Q hg hu hk hQ => ?_⟩
  rotate_left
  · simp only [PyData.showable] at hs
    simp only [PyData.shown] at hz hQ
    simp only [PyData.depth] at hu
    obtain ⟨bs, mb, kb⟩ := l.rk hs fun t ht => Nat.le_trans (tupleText_mem_le ht) hz
    refine call_repr_slot (T := "tuple") (by omega) ⟨o, hk _ _ h1, h2⟩ F.slot_tuple_repr ?_
    exact call_tuple_reprK h1 h2 h3 (not_mem_of_deeper r (by simp only [PyData.depth]; omega) mb) kb hg (fun b _ => Clear.nil b) (by show A.units + 1 + _ < cLine; omega) hk (fun h' u tk kp => ⟨_, _, rfl, hQ h' u tk kp⟩) hz
  simp only [PyData.showable] at hs
  simp only [PyData.shown] at hz
  obtain ⟨bs, mb, kb⟩ := l.rk hs fun t ht => Nat.le_trans (tupleText_mem_le ht) hz
  refine ⟨a :: bs, ReadAtMost.cons r (by simp only [PyData.depth]; omega) mb, ?_⟩
  simp only [PyData.depth, PyData.shown]
  exact ReprK.tuple h1 h2 h3 (not_mem_of_deeper r (by simp only [PyData.depth]; omega) mb) kb
theorem Shw.dict {es : Array DictEntry} {ds : List (PyData × PyData)} (h1 : h.get? a = some o) (h2 : o.cls = .type "dict") (h3 : o.data = .dict es n) (lo : (a == sysModules) = false) (lk : ShwA P w h (es.toList.map (·.key)) (ds.map (·.1))) (lv : ShwA P w h (es.toList.map (·.val)) (ds.map (·.2))) : Shw P w h (.ref a) (.dict ds) := by
  obtain ⟨as, ra⟩ := lk.rd
  obtain ⟨bs, rb⟩ := lv.rd
  have r : Reads h (.ref a) (.dict ds) _ := .dict h1 h2 h3 ra rb
  refine ⟨⟨_, r⟩, fun hs hz => ?_, fun hs hz A E s Q hg hu hk hQ => ?_⟩
  rotate_left
  · simp only [PyData.showable] at hs
    simp only [PyData.shown] at hz
    simp only [PyData.shown, PyData.shownKv_eq] at hQ
    simp only [PyData.depth] at hu
    obtain ⟨s1, s2⟩ := PyData.showableKv_split ds hs
    obtain ⟨b1, m1, k1⟩ := lk.rk s1 fun t ht => let ⟨p, hp, hl⟩ := PyData.shownKv_key_le ds t ht; Nat.le_trans hl (Nat.le_trans (dictText_mem_le hp) hz)
    obtain ⟨b2, m2, k2⟩ := lv.rk s2 fun t ht => let ⟨p, hp, hl⟩ := PyData.shownKv_val_le ds t ht; Nat.le_trans hl (Nat.le_trans (dictText_mem_le hp) hz)
    have m : ReadAtMost h (PyData.depthKv ds) (b1 ++ b2) := (m1.mono (PyData.depthAll_keys_le ds)).append (m2.mono (PyData.depthAll_vals_le ds))
    refine call_repr_slot (T := "dict") (by omega) ⟨o, hk _ _ h1, h2⟩ F.slot_dict_repr ?_
    exact call_dict_reprK h1 h2 h3 lo (not_mem_of_deeper r (by simp only [PyData.depth]; omega) m) (ReprEntriesK.of_two es.toList _ _ (k1.more_le (fun b hb => List.mem_append.mpr (.inl hb)) (PyData.depthAll_keys_le ds)) (k2.more_le (fun b hb => List.mem_append.mpr (.inr hb)) (PyData.depthAll_vals_le ds)))
      hg (fun b _ => Clear.nil b) (by show A.units + 1 + _ < cLine; omega) hk (fun h' u tk kp => ⟨_, _, rfl, hQ h' u tk kp⟩) (by rw [← PyData.shownKv_eq]; exact hz)
  simp only [PyData.showable] at hs
  simp only [PyData.shown] at hz
  obtain ⟨s1, s2⟩ := PyData.showableKv_split ds hs
  obtain ⟨b1, m1, k1⟩ := lk.rk s1 fun t ht => let ⟨p, hp, hl⟩ := PyData.shownKv_key_le ds t ht; Nat.le_trans hl (Nat.le_trans (dictText_mem_le hp) hz)
  obtain ⟨b2, m2, k2⟩ := lv.rk s2 fun t ht => let ⟨p, hp, hl⟩ := PyData.shownKv_val_le ds t ht; Nat.le_trans hl (Nat.le_trans (dictText_mem_le hp) hz)
  have m : ReadAtMost h (PyData.depthKv ds) (b1 ++ b2) := (m1.mono (PyData.depthAll_keys_le ds)).append (m2.mono (PyData.depthAll_vals_le ds))
  refine ⟨a :: (b1 ++ b2), ReadAtMost.cons r (by simp only [PyData.depth]; omega) m, ?_⟩
  simp only [PyData.depth, PyData.shown, PyData.shownKv_eq]
  exact ReprK.dict h1 h2 h3 lo (not_mem_of_deeper r (by simp only [PyData.depth]; omega) m) (ReprEntriesK.of_two es.toList _ _ (k1.more_le (fun b hb => List.mem_append.mpr (.inl hb)) (PyData.depthAll_keys_le ds)) (k2.more_le (fun b hb => List.mem_append.mpr (.inr hb)) (PyData.depthAll_vals_le ds)))
theorem Shw.leaf {u : Value} {d : PyData} {as : List Addr} (r : Reads h u d as) (k : d.showable = true → d.shown.length ≤ sizeLine → ReprIs P w u d.shown)
    (t : d.showable = true → d.shown.length ≤ sizeLine → ∀ (A : Around) (E : Value → Shared → Prop) (s : Shared) (Q : Value → Shared → Prop), Q (.str d.shown s.toks) { s with toks := s.toks + 1 } → wpAny (model P w) A (call (.builtin "repr") [u]) Q E s) : Shw P w h u d :=
  ⟨⟨_, r⟩, fun hs hz => ⟨[], (fun _ m => nomatch m), .of_is (k hs hz) _ _ _⟩, fun hs hz A E s Q _ _ _ hQ => t hs hz A E s Q (hQ s.heap _ _ fun _ _ e => e)⟩
theorem Shw.none : Shw P w h .none .none := .leaf .none (fun _ _ => ReprIs.none) fun _ _ A E s Q q => PySem.P.repr_of_none q
theorem Shw.bool (k : Bool) : Shw P w h (.bool k) (.bool k) := .leaf (.bool k) (fun _ _ => ReprIs.bool k) fun _ _ A E s Q q => PySem.P.repr_of_bool q
theorem Shw.int (i : Int) (t : Tok) : Shw P w h (.int i t) (.int i) := .leaf (.int i t) (fun hs _ => ReprIs.int t (by simpa [PyData.showable] using hs)) fun hs _ A E s Q q => PySem.P.repr_of_int (by simpa [PyData.showable] using hs) q
theorem Shw.str (x : Str) (t : Tok) : Shw P w h (.str x t) (.str x) := .leaf (.str x t) (fun _ hz => ReprIs.str x t (by simpa only [PyData.shown] using hz)) fun _ hz A E s Q q => PySem.P.repr_of_str (by simpa only [PyData.shown] using q) (by simpa only [PyData.shown] using hz)
end
theorem shwKeys {P : Program} {w : World} {h : Heap} : ∀ {es : List DictEntry} {kvs : List (Key × V)} {vs : List (Key × Value)}, KV kvs vs → Pairs (mixKind P w) es vs → ShwA P w h (es.map (·.key)) (kvs.map fun p => kD p.1) ∧ Vals (kvs.map (·.2)) (es.map (·.val))
  | _, _, _, .nil, .nil => ⟨.nil, .nil⟩
  | _, _, _, .cons (a := p) (b := q) r t, .cons (e := en) hk hv hp => by
    obtain ⟨l1, l2⟩ := shwKeys (h := h) t hp
    obtain ⟨p1, p2⟩ := p
    obtain ⟨q1, q2⟩ := q
    obtain ⟨r1, r2⟩ := r
    have r1' : p1 = q1 := r1
    subst r1'
    refine ⟨?_, .cons (show L2.RelV p2 en.val by rw [hv]; exact r2) l2⟩
    rw [List.map_cons, List.map_cons]
    have kk : keyIs p1 en.key = true := hk
    rcases keyIs_shape kk with ⟨i, u, a1, a2⟩ | ⟨x, u, a1, a2⟩
    · subst a1
      rw [a2]
      exact .cons (.int i u) l1
    · subst a1
      rw [a2]
      exact .cons (.str x u) l1
mutual
theorem Rq.shw (I : Inv X pins σ H s) : ∀ {v : V} {d : PyData}, Rq Z H v d → ∀ u, RelV v u → Shw X.prog X.w s.heap u d
  | _, _, .non, _, r => by cases r; exact .none
  | _, _, .bl k, _, r => by cases r; exact .bool k
  | _, _, .int i, _, r => by obtain ⟨t, rfl⟩ := r; exact .int i t
  | _, _, .str x, _, r => by obtain ⟨t, rfl⟩ := r; exact .str x t
  | _, _, .lst e _ q, _, r => by
    cases r
    obtain ⟨its, rv, ⟨o, m, ho, hc, _, hd⟩, _⟩ := I.list (SqL.of e)
    exact .list ho hc hd (Rqs.shw I q _ rv)
  | _, _, .tup e _ _ q, _, r => by
    cases r
    obtain ⟨its, rv, ⟨o, ho, hc, m, hd⟩, _⟩ := I.tuple (SqT.th e)
    exact .tuple ho hc hd (Rqs.shw I q _ rv)
  | _, _, .dct e _ q, _, r => by
    cases r
    obtain ⟨_, lo, vs, kv, o, es, ep, ho, he, hd, _, hp, _⟩ := dk_of I.hok e
    obtain ⟨k1, k2⟩ := shwKeys (P := X.prog) (w := X.w) (h := s.heap) kv hp
    obtain ⟨l2, l3⟩ := Rqk.shw I q _ k2
    rw [l3] at k1
    exact .dict ho he.1 hd lo k1 l2
theorem Rqs.shw (I : Inv X pins σ H s) : ∀ {v : List V} {d : List PyData}, Rqs Z H v d → ∀ u, Vals v u → ShwA X.prog X.w s.heap u d
  | _, _, .nil, _, r => by cases r; exact .nil
  | _, _, .cons q t, _, r => by
    cases r with
    | cons r rr => exact .cons (Rq.shw I q _ r) (Rqs.shw I t _ rr)
theorem Rqk.shw (I : Inv X pins σ H s) : ∀ {v : List (Key × V)} {d : List (PyData × PyData)}, Rqk Z H v d → ∀ u, Vals (v.map (·.2)) u → ShwA X.prog X.w s.heap u (d.map (·.2)) ∧ v.map (fun p => kD p.1) = d.map (·.1)
  | _, _, .nil, _, r => by cases r; exact ⟨.nil, rfl⟩
  | _, _, .cons q t, _, r => by
    cases r with
    | cons r rr =>
      obtain ⟨h1, h2⟩ := Rqk.shw I t _ rr
      exact ⟨.cons (Rq.shw I q _ r) h1, by rw [List.map_cons, List.map_cons, h2]⟩
end
end
section
variable {X : Cx} {b : Bg} {W : WX} {e : Expr} {u : VA} {p pos : Pos}
/-- data that repr can show here -/
structure ReprOk (d : PyData) : Prop where
  sh : d.showable = true
  len : d.shown.length ≤ sizeLine
  dep : d.depth ≤ 40
@[simp] def gRepr : List D → (D → Prop) → Prop
  | [.py d], Q => ReprOk d ∧ Q (.py (.str d.shown))
  | _, _ => False
def rRepr : List V → Hp → VK → Prop := fun xs H Q => ∃ v d, xs = [v] ∧ Rq nz H v d ∧ d.showable = true ∧ d.shown.length ≤ sizeLine ∧ d.depth ≤ 40 ∧ Q (.str d.shown) H
theorem call_repr (hu : X.A.units + 64 < cLine) (hg : X.A.guards = some []) : CallR X (.builtin "repr") rRepr := by
  intro pins s σ H xs us Q I r ⟨v, d, e, q, h1, h2, h3, k⟩
  subst e
  obtain ⟨u, rfl, ru⟩ := vals1 r
  refine (Rq.shw I q _ ru).top h1 h2 X.A X.xe s _ hg (by omega) (fun _ _ e => e) fun h' t tk kp => ⟨.str d.shown, H, I.kept (t' := tk) kp, ⟨t, rfl⟩, k⟩
theorem rd_repr : CalD b (RE b) rRepr gRepr := by
  intro Z H vs ds Q Qd gd rx h k
  match ds, h, rx with
  | [.py d], ⟨⟨h1, h2, h3⟩, h⟩, rx =>
    obtain ⟨x, rfl, r⟩ := rx.one
    exact ⟨x, d, rfl, r.q, h1, h2, h3, k _ H (.py (.str _)) Ex.refl gd.g (.str _) h⟩
theorem ve_repr (hu : X.A.units + 64 < cLine) (hgd : X.A.guards = some []) (hg : Gl X "repr") (hm : X.mg "repr" = none) (ha : VXs X b W [e] u) (he : starEach [e] X.env = (false, eval e X.env) :: starEach [] X.env := by rfl) (hpl : (backTo pos (starEach [] X.env)).any (·.1) = false := by rfl) :
    VE X b W (.Call (.Name "repr" p) [e] [] pos) (vCal gRepr u) := ve_callB (call_repr hu hgd) rd_repr hg hm (by decide +kernel) ha (by decide) (by decide) he hpl
end
end VL
set_option Elab.async false
set_option linter.all false
set_option maxRecDepth 100000
set_option maxHeartbeats 4000000
namespace VL
open PySem PySem.Spec PyProof.Rows L2

/-! ### the law itself: called where nothing is being shown -/
structure FnG (P : Program) (w : World) (K : PySem.W.Frag) (mg : Str → Option Value) (base : Heap) (k : Nat) (f : Addr) (fd : FuncData) (ps : List Str) (sp : Sp) : Prop where
  run : ∀ (A : Around) (outer : List Env) (s : Shared) (H : Hp) (args : Args) (us : List Value) (vs : List V) (Q : VK) (E : XK), Room k A → A.guards = some [] → Env0 P w K mg base A outer s H → BindsTo s fd args (ps.zip us) → Vals vs us → sp vs H Q E →
    codeAny (model P w) A (.call (.ref f) args) (CR (L2.CX P w) outer P w H s Q E) s
section
variable {P : Program} {w : World} {K : PySem.W.Frag} {mg : Str → Option Value} {base : Heap} {k : Nat} {x qual : Str} {st : Stmt} {f : Addr} {fd : FuncData} {N ps : List Str} {sp : Sp}
theorem fnG (F : Fun K x qual st f fd) (S : FnScope N ps (defScope st)) (len : ∀ vs H Q E, sp vs H Q E → vs.length = ps.length)
    (hbody : ∀ (cdv : Value) (A : Around) (outer : List Env) (s : Shared) (H : Hp) (vs : List V) (Q : VK) (E : XK), Room k (A.deeper (envOfC qual (defScope st) s.heap.objs.size f cdv)) → (A.deeper (envOfC qual (defScope st) s.heap.objs.size f cdv)).guards = some [] → sp vs H Q E →
      ∃ t, PSs (cxOf (L2.CX P w) P w K mg base N qual (defScope st) f cdv A outer s H E) (defBody st) t ∧ t { nx := fun _ H' => Q .non H', rt := Q } (L2.start N vs) H) : FnG P w K mg base (k + 1) f fd ps sp := by
  obtain ⟨oc, od, kV, doc, pm, an, cdv, ct, osl, rfl, lk, hcd⟩ := F.ex
  refine ⟨fun A outer s H args us vs Q E hr hgd e0 hb rv hsp => ?_⟩
  have nl : s.heap.NoLimit := e0.mod.nolimit.keeps fun b o e => (e0.bs b o e).1
  have kin : K.In s.heap := e0.mod.kin.keeps fun b o e => (e0.bs b o e).1
  have kinds : ∀ y ∈ ps.zip us, (defScope st).names.lookup y.1 = some .local ∨ ((defScope st).names.lookup y.1 = some .cell ∧ ((cellsFrom (s.heap.objs.size + 1) (defScope st).names []).lookup y.1).isSome = true) := fun ⟨n, v⟩ hy =>
    (S.par n (List.of_mem_zip hy).1).imp id fun q => ⟨q, PySem.W.cellsFrom_some _ _ _ (.inl q)⟩
  refine codeAny_call_function hr.depth (kin _ _ lk) rfl S.co S.gen rfl (PySem.W.codeRec_of kin hcd) (hb _ _ _ _ (wpAny_newFunctionEnv_cells S.kind kinds fun env he s1 ic => ?_))
  subst he
  refine ⟨nl.keeps ic.toInCall.keep, codeAny_func ?_⟩
  obtain ⟨t, ht, hq⟩ := hbody cdv A outer s H vs Q E (hr.deeper _) hgd hsp
  refine wpAny_mono (ht.run [] s1 (L2.start N vs) H _ (inv_start S hr.hd e0 (len _ _ _ _ hsp) rv ic) hq) (fun fl s' hs => ?_) fun e s' hs => hs
  cases fl with
  | ret u =>
    obtain ⟨v, σ', H', J, rv', q⟩ := hs
    exact ⟨v, H', J.os, J.bare, J.base, J.hok, rv', q⟩
  | next =>
    obtain ⟨σ', H', J, q⟩ := hs
    exact ⟨.non, H', J.os, J.bare, J.base, J.hok, rfl, q⟩
  | brk => exact hs.elim fun _ h => h.elim fun _ h => h.2.elim
  | cont => exact hs.elim fun _ h => h.elim fun _ h => h.2.elim
end
/-- at the heap behind the top -/
theorem lawG {P : Program} {w : World} {K : PySem.W.Frag} {mg mb : Str → Option Value} {k : Nat} {fa a : Addr} {fd : FuncData} {x : Str} {sp : Sp} {s0 : Shared} {vs : List Value} {ns : List Int}
    (KX : K.In s0.heap) (hns : s0.heap.Ns mainGlobals mg) (hb : s0.heap.Ns builtinsNs mb) (hbb : ∀ x : Str, x ≠ "__name__" → mb x = bootBuiltins x) (hlim : s0.heap.NoLimit) (hgens : s0.gens = #[])
    (ha : s0.heap.get? a = some { cls := .type "list", data := .seq vs.toArray }) (hi : IntsAre vs ns) (hl : ns.length ≤ sizeLine) (hr : Room k callerA)
    (F : ∀ base : Heap, K.In base → base.Ns mainGlobals mg → FnG P w K mg base k fa fd [x] sp) (hbind : ∀ (s : Shared) (u : Value), BindsTo s fd ⟨[u], []⟩ [(x, u)])
    (hsp : ∀ H : Hp, Only H → SqL K H a (ns.map V.int) → sp [.ref a] H (fun v _ => v = .bl true) fun _ _ _ => False) :
    codeAny (model P w) callerA (.call (.ref fa) ⟨[.ref a], []⟩) (fun r s' => r = .ok (.ret (.bool true)) ∧ OldK s0.heap s'.heap ∧ s'.os = s0.os ∧ AllBare s'.gens) s0 := by
  have rv := vals_ints hi
  -- whatever is tracked is the script
  have go : ∀ H : Hp, Only H → SqL K H a (ns.map V.int) → HOk P w H s0.heap → (∀ b, H b ≠ none → b = a) → (H a ≠ none → K.lookup a = none) →
      codeAny (model P w) callerA (.call (.ref fa) ⟨[.ref a], []⟩) (fun r s' => r = .ok (.ret (.bool true)) ∧ OldK s0.heap s'.heap ∧ s'.os = s0.os ∧ AllBare s'.gens) s0 := by
    intro H hO hS hok hA hK
    have only_a : ∀ {b : Addr} {u : HO}, H b = some u → b = a := fun {b u} q => hA b (by rw [q]; simp)
    have low : ∀ {b : Addr} {o : Obj}, s0.heap.get? b = some o → H b = none → (hidT s0.heap H).get? b = some o := fun e n => hidT_get e n
    have nsk : ∀ {b : Addr} {m : Str → Option Value}, s0.heap.Ns b m → (hidT s0.heap H).Ns b m := fun {b m} ⟨o, es, ep, e, d, r⟩ => ⟨o, es, ep, low e (by
      cases q : H b with
      | none => rfl
      | some u =>
        rw [only_a q, ha] at e
        cases e
        have d' : Data.seq vs.toArray _ = Data.dict es ep := d
        cases d'), d, r⟩
    have kb : K.In (hidT s0.heap H) := fun b o e => low (KX b o e) (by
      cases q : H b with
      | none => rfl
      | some u =>
        have eb := only_a q
        subst eb
        rw [hK (by rw [q]; simp)] at e
        cases e)
    obtain ⟨mc, c1, c2⟩ := hlim
    have env : Env0 P w K mg (hidT s0.heap H) callerA [] s0 H := ⟨rfl, ⟨kb, nsk hns, ⟨mb, nsk hb, hbb⟩, ⟨mc, nsk c1, c2⟩⟩, fun b o e => of_hidT e, Nat.le_of_eq (hidT_size _ _), trivial, (fun b m => nomatch (show b ∈ ([] : List Addr) from m)), hok, .of_eq hgens⟩
    refine codeAny_mono ((F _ kb (nsk hns)).run callerA [] s0 H ⟨[.ref a], []⟩ [.ref a] [.ref a] _ _ hr rfl env (hbind s0 (.ref a)) (.cons rfl .nil) (hsp H hO hS)) fun r s' h => ?_
    match r, h with
    | .error e, h => obtain ⟨_, _, _, _, _, _, _, _, _, _, _, _, z⟩ := h; exact z.elim
    | .ok .next, h => exact (show False from h).elim
    | .ok .brk, h => exact (show False from h).elim
    | .ok .cont, h => exact (show False from h).elim
    | .ok (.ret u), h =>
      obtain ⟨v, H', os, bare, un, hok', r', q⟩ := h
      have ev : v = .bl true := q
      subst ev
      obtain rfl : u = Value.bool true := r'
      refine ⟨rfl, OldK.of_keep fun b o e => ?_, os, bare⟩
      cases q : H b with
      | none => exact un.keep b o e q (fun z => nomatch (show b ∈ ([] : List Addr) from z)) (by simp)
      | some u =>
        rcases hO b with z | ⟨ob, xs, z⟩
        · rw [q] at z; cases z
        · obtain ⟨e1, _⟩ := hok b _ z
          obtain ⟨e2, _⟩ := hok' b _ (un.frzs b ob _ z)
          rw [e] at e1; cases e1
          exact e2
  cases hk : K.lookup a with
  | some o =>
    have e := KX a o hk
    rw [ha] at e
    cases e
    refine go (fun _ => none) (fun _ => .inl rfl) (.inr ⟨_, vs.toArray, _, hk, rfl, rfl, rfl, by rw [List.size_toArray, hi.length]; exact hl, by simpa using rv⟩) (fun b u z => nomatch (show (none : Option HO) = some u from z)) (fun b z => absurd rfl z) fun z => absurd rfl z
  | none =>
    have at1 : ∀ b, b ≠ a → (if b = a then some (HO.frz { cls := .type "list", data := .seq vs.toArray } (.lst (ns.map V.int))) else none) = none := fun b hb => if_neg hb
    refine go (fun b => if b = a then some (.frz { cls := .type "list", data := .seq vs.toArray } (.lst (ns.map V.int))) else none) (fun b => ?_) (.inl (.inr ⟨_, if_pos rfl⟩)) (fun b u z => ?_) (fun b z => Classical.byContradiction fun n => z (at1 b n)) fun _ => hk
    · by_cases hb : b = a
      · exact .inr ⟨_, _, if_pos hb⟩
      · exact .inl (at1 b hb)
    · by_cases hb : b = a
      · have z' := (if_pos hb).symm.trans z
        cases z'
        subst hb
        exact ⟨ha, by rw [List.length_map]; exact hl, vs, _, rv, ha⟩
      · have z' := (at1 b hb).symm.trans z
        cases z'
/-- the end -/
theorem walkG {l : PySem.W.OpenLaw} {n k : Nat} {q : Program} {loose : List Str} {XP : (Str → Option Value) → Heap → Prop} {YP : World → Heap → Prop} {d : DefRec} {K : Params → PySem.W.Frag} {sp : World → Sp} {x : Str}
    (hn : l.most = some n) (hn2 : n ≤ sizeLine) (hdf : d.params.defaults = []) (hr : Room k callerA) (hY : ∀ (w : World) (h : Heap), YP w h → (K w.params).In h)
    (F : ∀ (w : World) (mg : Str → Option Value) (fa : Addr) (h : Heap), (K w.params).In h → h.Ns mainGlobals mg → mg d.name = some (.ref fa) →
      ∃ fd : FuncData, (∀ (s : Shared) (u : Value), BindsTo s fd ⟨[u], []⟩ [(x, u)]) ∧ ∀ base : Heap, (K w.params).In base → base.Ns mainGlobals mg → FnG l.prog w (K w.params) mg base k fa fd [x] (sp w))
    (hsp : ∀ (w : World) (H : Hp) (a : Addr) (ns : List Int), ns.length ≤ n → Only H → SqL (K w.params) H a (ns.map V.int) → sp w [.ref a] H (fun v _ => v = .bl true) fun _ _ _ => False) :
    PySem.W.WalkO q loose XP YP l.row.toRowW d [] (fun f vs => PySem.call f vs) := by
  refine Att.attach_call hn hdf fun w s s0 mg mb fa o pm cd doc a vs ns G Y ho hd hcd hmg hobj hints hlen hg => ?_
  obtain ⟨fd, hb, hF⟩ := F w mg fa _ (hY w _ Y) G.T.g hmg
  exact lawG (hY w _ Y) G.T.g G.T.b G.T.builtins G.T.nolimit hg hobj hints (Nat.le_trans hlen hn2) hr hF hb fun H hO hS => hsp w H a ns hlen hO hS
end VL
set_option Elab.async false
set_option linter.all false
set_option maxRecDepth 100000
set_option maxHeartbeats 4000000
namespace VL
open PySem PySem.Spec PyProof.Rows L2

/-! ### a bag of drawn numbers: a dict with two lists, its own -/
abbrev kG : Key := .inr "great"
abbrev kC : Key := .inr "cells"
abbrev kN : Key := .inr "drawn"
def bagAt (r l1 l2 : Addr) (gs ds : List Int) (n : Int) (H : Hp) : Prop :=
  H r = some (.dK [(kG, .ref l1), (kC, .ref l2), (kN, .int n)]) ∧ H l1 = some (.lst (gs.map V.int)) ∧ H l2 = some (.lst (ds.map V.int)) ∧ gs.length ≤ 63 ∧ ds ≠ [] ∧ l1 ≠ l2
theorem bagAt.rl1 {r l1 l2 : Addr} {gs ds : List Int} {n : Int} {H : Hp} (h : bagAt r l1 l2 gs ds n H) : r ≠ l1 := fun e => by rw [e] at h; have h1 := h.1; rw [h.2.1] at h1; cases h1
theorem bagAt.rl2 {r l1 l2 : Addr} {gs ds : List Int} {n : Int} {H : Hp} (h : bagAt r l1 l2 gs ds n H) : r ≠ l2 := fun e => by rw [e] at h; have h1 := h.1; rw [h.2.2.1] at h1; cases h1
/-- the surroundings: the classes, the bag -/
def bagB (cls : Str → Addr) (r l1 l2 : Addr) : Bg where
  cls := cls
  B := fun a => a = r ∨ a = l1 ∨ a = l2
  G := fun H => ∃ gs ds n, bagAt r l1 l2 gs ds n H
  loc := fun H H' h ⟨gs, ds, n, h1, h2, h3, h4⟩ => ⟨gs, ds, n, by rw [h r (.inl rfl)]; exact h1, by rw [h l1 (.inr (.inl rfl))]; exact h2, by rw [h l2 (.inr (.inr rfl))]; exact h3, h4⟩
  dom := fun H a ⟨gs, ds, n, h1, h2, h3, _⟩ h => by
    rcases h with rfl | rfl | rfl
    · rw [h1]; simp
    · rw [h2]; simp
    · rw [h3]; simp
/-- at a call: nothing but the bag is changed -/
def KeepB (r l1 l2 : Addr) (H H' : Hp) : Prop := ∀ a o, H a = some o → a ≠ r → a ≠ l1 → a ≠ l2 → H' a = some o
theorem KeepB.ex {cls : Str → Addr} {r l1 l2 : Addr} {H H' : Hp} (k : KeepB r l1 l2 H H') : Ex (bagB cls r l1 l2) H H' := fun a o e n => k a o e (fun h => n (.inl h)) (fun h => n (.inr (.inl h))) fun h => n (.inr (.inr h))
theorem KeepB.refl {r l1 l2 : Addr} {H : Hp} : KeepB r l1 l2 H H := fun _ _ e _ _ _ => e
theorem KeepB.trans {r l1 l2 : Addr} {H H1 H2 : Hp} (h : KeepB r l1 l2 H H1) (k : KeepB r l1 l2 H1 H2) : KeepB r l1 l2 H H2 := fun a o e n1 n2 n3 => k a o (h a o e n1 n2 n3) n1 n2 n3
theorem KeepB.upd {r l1 l2 p : Addr} {H H1 : Hp} {o : HO} (h : KeepB r l1 l2 H H1) (hp : p = r ∨ p = l1 ∨ p = l2 ∨ H1 p = none) : KeepB r l1 l2 H (upd H1 p o) := fun a u e n1 n2 n3 => by
  have e1 := h a u e n1 n2 n3
  rw [upd_ne (fun q => by
    subst q
    rcases hp with q | q | q | q
    · exact n1 q
    · exact n2 q
    · exact n3 q
    · rw [q] at e1; cases e1)]
  exact e1
/-- what the def that draws one number promises: below many, in the heap -/
def spTake : Sp := fun vs H Q _ => ∃ r l1 l2 gs ds n, ∃ m : Int, vs = [.ref r, .int m] ∧ bagAt r l1 l2 gs ds n H ∧ 0 < m ∧ m < 1073741824 ∧ ∀ H' gs' n' x, KeepB r l1 l2 H H' → bagAt r l1 l2 gs' ds n' H' → 0 ≤ x → x < m → Q (.int x) H'
/-- .. over values -/
@[simp] def svTake (r : Addr) : SV
  | [.raw v, .py (.int m)], Q, _ => v = .ref r ∧ 0 < m ∧ m < 1073741824 ∧ ∀ x : Int, 0 ≤ x → x < m → Q (.py (.int x))
  | _, _, _ => False
theorem svTake_ex {r : Addr} : ∀ {ds : List D} {Q : D → Prop} {E : Er → Prop}, svTake r ds Q E → ∃ m : Int, ds = [.raw (.ref r), .py (.int m)] ∧ 0 < m ∧ m < 1073741824 ∧ ∀ x : Int, 0 ≤ x → x < m → Q (.py (.int x))
  | [.raw v, .py (.int m)], _, _, ⟨e, h⟩ => ⟨m, by rw [e], h⟩
theorem raw_is {b : Bg} {Z : Addr → Prop} {H : Hp} {v u : V} (r : Rp b Z H v (.raw u)) : v = u := r
theorem take_v {P : Program} {w : World} {K : PySem.W.Frag} {mg : Str → Option Value} {base : Heap} {k : Nat} {f : Addr} {fd : FuncData} {ps : List Str} {CX : CXT} {cls : Str → Addr} {r l1 l2 : Addr} (h : FnOk P w K mg base CX k f fd ps spTake) : FnOk P w K mg base CX k f fd ps (spV (bagB cls r l1 l2) (svTake r)) :=
  h.imp fun vs H Q E ⟨Z, ds, Qd, Ed, g, rp, hh, l, _⟩ => by
    obtain ⟨m, ed, h1, h2, q⟩ := svTake_ex hh
    subst ed
    obtain ⟨x, y, rfl, rx, ry⟩ := rbs2 rp
    have ex : x = .ref r := rx
    have ey : y = .int m := Rb.int (b := bagB cls r l1 l2) (.inl ry)
    subst ex ey
    obtain ⟨gs, ds, n, hb⟩ := g.g
    exact ⟨r, l1, l2, gs, ds, n, m, rfl, hb, h1, h2, fun H' gs' n' x kp b' x0 x1 => l (.int x) H' (.py (.int x)) kp.ex ⟨gs', ds, n', b'⟩ (.int x) (q x x0 x1)⟩
def AllIn (xs : List PyData) (R : PyData → Prop) : Prop := ∀ y ∈ xs, R y
theorem AllIn.of {xs : List PyData} {R S : PyData → Prop} (h : ∀ y ∈ xs, S y) (k : ∀ y, S y → R y) : AllIn xs R := fun y hy => k y (h y hy)
/-- an item of a list or tuple, by a drawn number -/
@[simp] def svPick (r : Addr) : SV
  | [.raw v, .py (.list xs)], Q, _ => v = .ref r ∧ xs ≠ [] ∧ xs.length < 1073741824 ∧ AllIn xs fun y => Q (.py y)
  | [.raw v, .py (.tuple xs)], Q, _ => v = .ref r ∧ xs ≠ [] ∧ xs.length < 1073741824 ∧ AllIn xs fun y => Q (.py y)
  | [.raw v, .py (.str z)], Q, _ => v = .ref r ∧ z.length ≤ sizeLine ∧ signsD z ≠ [] ∧ AllIn (signsD z) fun y => Q (.py y)
  | _, _, _ => False
theorem signsD_len (z : Str) : (signsD z).length = z.length := by unfold signsD; rw [List.length_map, Array.length_toList]; rfl
theorem svPick_ex {r : Addr} : ∀ {ds : List D} {Q : D → Prop} {E : Er → Prop}, svPick r ds Q E → ∃ p xs, ds = [.raw (.ref r), .py p] ∧ (p = .list xs ∨ p = .tuple xs ∨ ∃ z, p = .str z ∧ z.length ≤ sizeLine ∧ xs = signsD z) ∧ xs ≠ [] ∧ xs.length < 1073741824 ∧ ∀ y, y ∈ xs → Q (.py y)
  | [.raw v, .py (.list xs)], _, _, ⟨e, h⟩ => ⟨_, xs, by rw [e], .inl rfl, h⟩
  | [.raw v, .py (.tuple xs)], _, _, ⟨e, h⟩ => ⟨_, xs, by rw [e], .inr (.inl rfl), h⟩
  | [.raw v, .py (.str z)], _, _, ⟨e, h1, h2, h3⟩ => ⟨_, _, by rw [e], .inr (.inr ⟨z, rfl, h1, rfl⟩), h2, by rw [signsD_len]; rw [sizeLine_eq] at h1; omega, h3⟩
/-- what the first def promises: a new bag -/
def spOpened (K : PySem.W.Frag) : Sp := fun vs H Q _ => ∃ (a : Addr) (ns : List Int), vs = [.ref a] ∧ SqL K H a (ns.map V.int) ∧ ns.length ≤ 63 ∧ ∀ r l1 l2 gs ds n H', (∀ c o, H c = some o → H' c = some o) → H r = none → H l1 = none → H l2 = none → bagAt r l1 l2 gs ds n H' → Q (.ref r) H'
end VL
namespace VL
open PySem
theorem plain_ints (l : List Int) : PyData.plainAll (l.map PyData.int) = true := by
  induction l with
  | nil => rfl
  | cons a l ih => simp [PyData.plainAll, PyData.plain, ih]
end VL
namespace VL
open PySem PySem.Spec PyProof.Rows L2
/-- no surroundings -/
def bg0 : Bg := ⟨fun _ => 0, fun _ => False, fun _ => True, fun _ _ _ _ => trivial, fun _ _ _ h => h.elim⟩
theorem VOk.plain {σ : L2.St} {H : Hp} {ρ : VEnv} (hl : ρ.length = σ.length) (h : ∀ (i : Nat) (s : Slot), ρ[i]? = some s → s = .un ∨ ∃ d v, s = .shr d ∧ σ[i]? = some (some v) ∧ Rp bg0 nz H v d) : VOk bg0 nz nz σ H ρ where
  g := trivial
  zb := fun _ z => z
  zo := fun _ z => z
  dom := fun _ z => z.elim
  zi := fun _ z => z.elim
  own := fun i d e => by rcases h i _ e with q | ⟨d', v, q, _⟩ <;> cases q
  inj := fun i j d e a h1 _ _ _ => by rcases h i _ h1 with q | ⟨d', v, q, _⟩ <;> cases q
  shr := fun i d e => by
    rcases h i _ e with q | ⟨d', v, q, h1, h2⟩
    · cases q
    · cases q; exact ⟨v, h1, h2⟩
  len := hl
theorem cut_ints (ns : List Int) (lo hi : Option Int) : ∃ ms : List Int, cutV (ns.map V.int) lo hi = ms.map V.int ∧ ms.length ≤ ns.length := by
  refine ⟨cutL ns lo hi, ?_, ?_⟩
  · unfold cutV cutL
    rw [List.length_map, List.map_take, List.map_drop]
  · unfold cutL
    rw [List.length_take, List.length_drop]
    omega
abbrev absI (i : Int) : Int := if i < 0 then -i else i
def bigs (k : Int) (cs : List Int) : List Int := cs.filter fun c => decide (k ≤ c)
theorem bigs_go {k : Int} {tt : VB} {te : VT} {ρ : VEnv} {Q : D → Prop} (h : 2 < ρ.length) (htt : ∀ (ρ : VEnv) (c : Int) (Q : Bool → Prop) (E : Er → Prop), ρ[2]? = some (.shr (.py (.int c))) → Q (decide (k ≤ c)) → tt ρ Q E)
    (hte : ∀ (ρ : VEnv) (d : D) (Q : D → Prop) (E : Er → Prop), ρ[2]? = some (.shr d) → Q d → te ρ Q E) : ∀ (cs acc : List Int), acc.length + cs.length ≤ 1000 → Q (.py (.list ((acc ++ bigs k cs).map PyData.int))) → lcGo (tgName 2) tt te Q ((cs.map PyData.int).map D.py) (acc.map PyData.int) ρ
  | [], acc, _, q => by rw [bigs, List.filter_nil, List.append_nil] at q; exact q
  | c :: cs, acc, hl, q => by
    refine ⟨h, htt _ c _ _ (List.getElem?_set_self h) (ite2 (fun hc => hte _ (.py (.int c)) _ _ (List.getElem?_set_self h) ⟨.int c, rfl, ?_, ?_⟩) fun hc => ?_)⟩
    · rw [List.length_map]
      rw [List.length_cons] at hl
      exact Nat.lt_of_le_of_lt (show acc.length ≤ 1000 by omega) (by decide)
    · have e : acc.map PyData.int ++ [PyData.int c] = (acc ++ [c]).map PyData.int := by simp
      rw [e]
      refine bigs_go h htt hte cs (acc ++ [c]) (by simp at hl ⊢; omega) ?_
      rw [bigs, List.filter_cons, if_pos hc] at q
      rw [List.append_assoc]
      exact q
    · refine bigs_go h htt hte cs acc (by simp at hl; omega) ?_
      rw [bigs, List.filter_cons, if_neg hc] at q
      exact q
end VL
set_option Elab.async false
set_option linter.all false
set_option maxRecDepth 100000
set_option maxHeartbeats 4000000
namespace VL
open PySem PySem.Spec PyProof.Rows L2
open Sem (wp)

/-! ### x[::-1] -/
section
variable {prog : Program} {w : World} {A : Around} {E : Value → Shared → Prop} {s : Shared}
theorem applied_back {sl : Addr} {tk : Tok} {n : Nat} {Q : Int × Int × Nat → Shared → Prop} (hs : s.heap.IsSliceOf sl .none .none (.int (-1) tk)) (h : Q ((n : Int) - 1, -1, n) s) : wpAny (model prog w) A (Builtin.Slice.sliceApplied (.ref sl) (pure (n : Int))) Q E s := by
  obtain ⟨os, hos, hcs, hds⟩ := id hs
  unfold Builtin.Slice.sliceApplied Builtin.Slice.sliceFields
  refine wpAny_bind (wpAny_bind (wpAny_field hos hds (x := .none) rfl (wpAny_bind (wpAny_field hos hds (x := .none) rfl (wpAny_bind (wpAny_field hos hds (x := .int (-1) tk) rfl (wpAny_pure ?_)))))))
  refine wpAny_bind (HT.slicePart_ (.int (-1) tk) ?_)
  show wpAny _ _ (if ((-1 : Int) == 0) = true then _ else _) _ _ s
  rw [if_neg (by decide)]
  refine wpAny_bind (HT.slicePart_ .none (wpAny_bind (HT.slicePart_ .none (wpAny_bind (wpAny_pure ?_)))))
  have e : Builtin.Slice.slicePlaces ((n : Int) - 1) (-1) (-1) = n := by
    unfold Builtin.Slice.slicePlaces
    rw [if_neg (by decide)]
    split
    · rw [Int.neg_neg, Int.ediv_one]; omega
    · omega
  show wpAny _ _ (pure ((n : Int) - 1, (-1 : Int), Builtin.Slice.slicePlaces ((n : Int) - 1) (-1) (-1))) _ _ s
  rw [e]
  exact wpAny_pure h
theorem pick_back (xs : Array Value) : ((List.range xs.size).filterMap fun (m : Nat) => xs[((xs.size : Int) - 1 + (m : Int) * (-1)).toNat]?).toArray = xs.toList.reverse.toArray := by
  have e : (fun (m : Nat) => xs[((xs.size : Int) - 1 + (m : Int) * (-1)).toNat]?) = (fun i => xs[i]?) ∘ fun (m : Nat) => ((xs.size : Int) - 1 + (m : Int) * (-1)).toNat := rfl
  rw [e, ← List.filterMap_map]
  have e2 : (List.range xs.size).map (fun (m : Nat) => ((xs.size : Int) - 1 + (m : Int) * (-1)).toNat) = (List.range xs.size).reverse := by
    rw [← PySem.W.krv_range]
    refine List.map_congr_left fun m hm => ?_
    have := List.mem_range.mp hm
    omega
  rw [e2, List.filterMap_reverse, PySem.W.krv_all]
theorem tuple_back {t sl : Addr} {tk : Tok} {items : Array Value} {Q : Value → Shared → Prop} (ht : IsTup s.heap t items) (hs : s.heap.IsSliceOf sl .none .none (.int (-1) tk)) (hsz : items.size ≤ sizeLine)
    (h : Q (.ref s.heap.objs.size) { s with heap := s.heap.push { cls := .type "tuple", data := .seq items.toList.reverse.toArray } }) : wpAny (model prog w) A (getItem (.ref t) (.ref sl)) Q E s := by
  obtain ⟨os, hos, hcs, hds⟩ := id hs
  have hTs : s.TypeIs (.ref sl) "slice" := ⟨os, hos, hcs⟩
  have hz : sizeOk (.seq items.toList.reverse.toArray) := by
    show items.toList.reverse.toArray.size ≤ sizeLine
    rw [List.size_toArray, List.length_reverse, Array.length_toList]
    exact hsz
  unfold getItem
  try with_reducible refine wpAny_holding ?_
  first | refine wpAny_bind (wpAny_pure ?_) | skip
  refine wpAny_bind (wpAny_sequenceKey ht.typeIs (by decide) ?_)
  refine wpAny_bind (wpAny_callSpecial?_slot (name := Str.ofString "__getitem__") ht.typeIs PyProof.Rows.slot_tuple_getitem (wpAny_call_entry PyProof.Rows.slot_tuple_getitem ht.typeIs PyProof.Rows.entry_tuple_getitem ?_ (PyProof.Rows.args_tuple_getitem _ _)))
  show wpAny _ _ (Builtin.Tuple.tupleItemsOf (.ref t) >>= _) _ _ s
  refine wpAny_bind (tupleItemsOf_ ht (wpAny_bind (wpAny_typeOf hTs ?_)))
  rw [if_pos (by decide)]
  refine wpAny_bind (applied_back hs ?_)
  show wpAny _ _ (if ((items.size : Int) - 1 == 0 && (-1 : Int) == 1 && items.size == items.size) = true then _ else _) _ _ s
  rw [if_neg (by rw [show ((-1 : Int) == 1) = false by decide, Bool.and_false, Bool.false_and]; exact Bool.false_ne_true), pick_back]
  first
    | exact wpAny_bind (m := Builtin.Tuple.tupleExact _) (wpAny_newObj_type (wpAny_pure ⟨_, rfl, wpAny_pure h⟩) hz)
    | exact wpAny_bind (m := Builtin.Tuple.tupleExact _) (wpAny_newObj_type (wpAny_bind (wpAny_pure (wpAny_pure ⟨_, rfl, wpAny_pure h⟩))) hz)
    | exact wpAny_bind (wpAny_bind (m := Builtin.Tuple.tupleExact _) (wpAny_newObj_type (wpAny_pure (wpAny_pure ⟨_, rfl, wpAny_pure h⟩)) hz))
    | exact wpAny_bind (wpAny_bind (m := Builtin.Tuple.tupleExact _) (wpAny_newObj_type (wpAny_pure ⟨_, rfl, wpAny_pure h⟩) hz))
end
section
variable {X : Cx} {e st : Expr} {te : TE} {tl : TO} {p2 pos : Pos}
/-- a rule for the backward slice of a value -/
def BkR (X : Cx) (r : V → Hp → VK → Prop) : Prop :=
  ∀ (pins : List (Addr × Obj)) (s : Shared) (σ : L2.St) (H : Hp) (x : V) (v : Value) (tk : Tok) (sl : Addr) (Q : VK), Inv X pins σ H s → RelV x v → s.heap.IsSliceOf sl .none .none (.int (-1) tk) → r x H Q →
    ∃ T id, typeLookup (.type T) "__getitem__" = pure (some (.builtin id)) ∧ s.TypeIs v T ∧ wpAny (model X.prog X.w) X.A (getItem v (.ref sl)) (EP X pins σ Q) X.xe s
theorem BkR.or {r r' : V → Hp → VK → Prop} (h : BkR X r) (h' : BkR X r') : BkR X (fun x H Q => r x H Q ∨ r' x H Q) := fun pins s σ H x v tk sl Q I rx hs q => q.elim (h pins s σ H x v tk sl Q I rx hs) (h' pins s σ H x v tk sl Q I rx hs)
def tBk (r : V → Hp → VK → Prop) (te : TE) (tl : TO) : TE := fun σ H Q => te σ H fun x H1 => tl σ H1 fun l H2 => l = some (-1) ∧ r x H2 Q
theorem pe_back {r : V → Hp → VK → Prop} (hr : BkR X r) (he : PE X e te) (hl : PO X (some st) tl) : PE X (.Subscript e (.Slice none none (some st) p2) pos) (tBk r te tl) := by
  refine ⟨fun pins s σ H Q I h => ?_⟩
  refine Subscript_ (thn (he.run pins s σ H _ I h) fun v s1 ⟨x, H1, I1, r1, q1⟩ => ?_)
  have hN : PO X none tNoPart := po_none
  refine wpAny_Slice (thn (hN.run pins s1 σ H1 _ I1 (show tNoPart σ H1 (fun l H2 => l = none ∧ H2 = H1) from ⟨rfl, rfl⟩)) fun vl s2 ⟨l, H2, I2, pl, el, eH⟩ => thn (hN.run pins s2 σ H2 _ I2 (show tNoPart σ H2 (fun l H3 => l = none ∧ H3 = H2) from ⟨rfl, rfl⟩)) fun vu s3 ⟨u, H3, I3, pu, eu, eH3⟩ => ?_)
  subst eH3 eH el eu
  cases pl
  cases pu
  refine thn (hl.run pins s3 σ _ _ I3 q1) fun vs s4 ⟨k, H4, I4, pk, ek, q4⟩ => ?_
  subst ek
  cases pk with
  | int i tk =>
    have I5 : Inv X pins σ H4 { s4 with heap := s4.heap.push { cls := .type "slice", data := .fields #[.none, .none, .int (-1) tk] } } := I4.kept (t' := s4.toks) fun b ob q => Heap.get?_push_of_some _ q
    obtain ⟨T, id, hT, ht, hg⟩ := hr pins _ σ H4 x v tk s4.heap.objs.size Q I5 r1 (Heap.IsSliceOf.new ..) q4
    exact tail_any (ops := [v, .ref s4.heap.objs.size]) ht hT hg (by with_unfolding_all rfl)
def rBkL (K : PySem.W.Frag) : V → Hp → VK → Prop := fun x H Q => ∃ a xs, x = .ref a ∧ SqL K H a xs ∧ ∀ p, H p = none → Q (.ref p) (upd H p (.lst xs.reverse))
def rBkT (K : PySem.W.Frag) : V → Hp → VK → Prop := fun x H Q => ∃ a xs, x = .ref a ∧ SqT K H a xs ∧ NewT H xs.reverse Q
theorem bk_list : BkR X (rBkL X.K) := by
  intro pins s σ H x v tk sl Q I rx hs ⟨a, xs, ex, hx, q⟩
  subst ex
  obtain rfl : v = .ref a := rx
  obtain ⟨its, r, pl, hz⟩ := I.list hx
  refine ⟨"list", _, list_getitem_lookup, pl.isList.typeIs, wpAny_getItem_list_slice pl.isList hs .none .none (.int (-1) tk) (by decide) ?_ (by rw [List.size_toArray, ← r.length]; exact hz)⟩
  rw [PySem.W.krv_pick]
  have rr : Vals xs.reverse its.reverse := r.reverse
  refine ⟨.ref s.heap.objs.size, _, I.laid (o := .lst xs.reverse) (t' := s.toks) (fun b o e => Heap.get?_push_of_some _ e) (Nat.le_refl _) ⟨by rw [List.length_reverse]; exact hz, its.reverse, 0, rr, Heap.get?_push_size _ rfl⟩, rfl, q _ (I.hok.fresh (Nat.le_refl _))⟩
theorem bk_tup : BkR X (rBkT X.K) := by
  intro pins s σ H x v tk sl Q I rx hs ⟨a, xs, ex, hx, q⟩
  subst ex
  obtain rfl : v = .ref a := rx
  obtain ⟨its, r, pl, hz⟩ := I.tuple hx
  refine ⟨"tuple", _, PyProof.Rows.slot_tuple_getitem.lookup, pl.typeIs, tuple_back pl hs (by rw [List.size_toArray, ← r.length]; exact hz) ?_⟩
  exact new_th (tk := s.toks) I (by rw [List.length_reverse]; exact hz) r.reverse q
end
section
variable {X : Cx} {b : Bg} {W : WX} {e e1 e2 st : Expr} {t t1 t2 : VT} {tl : VO} {p2 pos : Pos}
@[simp] def gBk : D → (D → Prop) → Prop
  | .py (.list xs), Q => Q (.py (.list xs.reverse))
  | .py (.tuple xs), Q => Q (.py (.tuple xs.reverse))
  | _, _ => False
@[simp] def vBk (t : VT) (tl : VO) : VT := fun ρ Q E => t ρ (fun x => tl ρ (fun k => k = some (-1) ∧ gBk x Q) E) E
theorem ve_back (h : VX X b W e t) (h1 : VPt X b W (some st) tl) : VE X b W (.Subscript e (.Slice none none (some st) p2) pos) (vBk t tl) :=
  pe_mono (pe_back (bk_list.or bk_tup) h h1) fun σ H Q ⟨Zo, Z, ρ, Qd, Ed, v, q, l, m⟩ => ⟨Zo, Z, ρ, _, Ed, v, q, fun x H1 d x1 g1 r1 q1 => ⟨Zo, Z, ρ, _, Ed, v.ex x1 g1, q1, fun k H2 x2 g2 ⟨ek, q2⟩ => by
    refine ⟨ek, ?_⟩
    have v2 := (v.ex x1 g1).ex x2 g2
    have r2 := r1.ex ((v.ex x1 g1).keep x2) x2
    match d, q2, r2 with
    | .py (.list xs), q2, r2 =>
      obtain ⟨a, us, rfl, ha, qa⟩ := r2.list
      exact .inl ⟨a, us, rfl, SqL.of ha, fun p hp => l _ _ (.py (.list xs.reverse)) ((x1.trans x2).trans (Ex.new hp)) (Bg.new g2 hp) (Rq.lst upd_same (v2.fresh hp) (qa.reverse.up hp)) q2⟩
    | .py (.tuple xs), q2, r2 =>
      obtain ⟨a, oa, us, rfl, ha, da, na, qa⟩ := r2.tuple
      exact .inr ⟨a, us, rfl, SqT.th ha, fun p o hp ho => l _ _ (.py (.tuple xs.reverse)) ((x1.trans x2).trans (Ex.new hp)) (Bg.new g2 hp) (Rq.tup upd_same ho (v2.fresh hp) (qa.reverse.up hp)) q2⟩,
    fun c z H2 er x2 g2 r2 q2 => m c z H2 er (x1.trans x2) g2 r2 q2⟩, m⟩

/-! ### products, minus -/
@[simp] def gMul : D → D → (D → Prop) → Prop
  | .py (.int i), .py (.int j), Q => CMul i j ∧ Q (.py (.int (i * j)))
  | .py (.list xs), .py (.int k), Q => (-(2 ^ 63) ≤ k ∧ k < 2 ^ 63 ∧ xs.length * k.toNat ≤ sizeLine) ∧ Q (.py (.list (List.replicate k.toNat xs).flatten))
  | .py (.tuple xs), .py (.int k), Q => (xs ≠ [] ∧ 2 ≤ k ∧ k ≤ 1000 ∧ xs.length ≤ 1000) ∧ Q (.py (.tuple (List.replicate k.toNat xs).flatten))
  | _, _, _ => False
@[simp] def gRepL : D → D → (D → Prop) → Prop
  | .py (.list xs), .py (.int k), Q => (-(2 ^ 63) ≤ k ∧ k < 2 ^ 63 ∧ xs.length * k.toNat ≤ sizeLine) ∧ Q (.py (.list (List.replicate k.toNat xs).flatten))
  | _, _, _ => False
theorem rn_rep : OpD b (RN b) rRep gRepL := by
  intro Z H x y dx dy Q Qd gd rx ry h k
  match dx, dy, h, rx, ry with
  | .py (.list xs), .py (.int n), ⟨⟨h1, h2, h3⟩, h⟩, rx, ry =>
    obtain ⟨a, us, rfl, ha, qa⟩ := rx.list
    refine ⟨a, n, us, rfl, ry.int, ha, h1, h2, by rw [qa.length]; exact h3, fun p hp => k _ _ (.py (.list _)) (Ex.new hp) (gd.new hp) ⟨p, rfl, hp, _, upd_same, (qa.rep n.toNat).up' hp⟩ h⟩
theorem rd_mul : OpD b (RE b) (fun x y H Q => rI CMul (fun i j => .int (i * j)) x y H Q ∨ (fun x y H Q => rRep x y H Q ∨ rRepF X.K x y H Q) x y H Q) gMul := by
  intro Z H x y dx dy Q Qd gd rx ry h k
  match dx, dy, h, rx, ry with
  | .py (.int i), .py (.int j), ⟨hc, h⟩, rx, ry =>
    rw [rx.int, ry.int]
    exact .inl ⟨i, j, rfl, rfl, hc, k _ H (.py (.int (i * j))) Ex.refl gd.g (.int _) h⟩
  | .py (.list xs), .py (.int n), h, rx, ry => exact .inr (.inl (OpD.toE rn_rep Z H x y (.py (.list xs)) (.py (.int n)) Q Qd gd rx ry h k))
  | .py (.tuple xs), .py (.int n), ⟨⟨h1, h2, h3, h4⟩, h⟩, rx, ry =>
    obtain ⟨a, oa, us, rfl, ha, da, na, qa⟩ := rx.tuple
    refine .inr (.inr ⟨a, n, us, rfl, ry.int, SqT.th ha, fun e => ?_, h2, h3, by rw [qa.length]; exact h4, fun p o hp ho => k _ _ (.py (.tuple _)) (Ex.new hp) (gd.new hp) (.tup upd_same ho (gd.fresh hp) ((qa.rep n.toNat).up hp)) h⟩)
    subst e
    cases qa
    exact h1 rfl
theorem ve_mul (h1 : VX X b W e1 t1) (h2 : VX X b W e2 t2) : VE X b W (.BinOp e1 .Mult e2 pos) (vBin gMul t1 t2) := ve_op (OpR.or op_mul (OpR.or op_rep op_repF)) rd_mul h1 h2
theorem vn_mul (h1 : VX X b W e1 t1) (h2 : VX X b W e2 t2) : VN X b W (.BinOp e1 .Mult e2 pos) (vBin gRepL t1 t2) := vn_op op_rep rn_rep h1 h2
@[simp] def gNeg : D → (D → Prop) → Prop
  | .py (.int i), Q => Q (.py (.int (-i)))
  | _, _ => False
theorem ve_neg (h : VX X b W e t) : VE X b W (.UnaryOp .USub e pos) (vUn gNeg t) :=
  pe_mono (pe_un un_neg h) fun σ H Q ⟨Zo, Z, ρ, Qd, Ed, v, q, l, m⟩ => ⟨Zo, Z, ρ, _, Ed, v, q, fun x H1 d x1 g1 r1 q1 => by
    match d, q1, r1 with
    | .py (.int i), q1, r1 => exact ⟨i, r1.int, l _ H1 (.py (.int (-i))) x1 g1 (Rq.int _) q1⟩, m⟩
/-! ### dict displays -/
@[simp] def vD0 : VT := fun _ Q _ => Q (.py (.dict []))
theorem vn_dict0 : VN X b W (.Dict [] [] pos) vD0 := pe_mono pe_dnewK fun σ H Q ⟨Zo, Z, ρ, Qd, Ed, v, q, l, m⟩ p hp => l _ _ (.py (.dict [])) (Ex.new hp) (Bg.new v.g hp) ⟨p, rfl, hp, [], upd_same, .nil⟩ q
@[simp] def vD1 (k : Key) (t : VT) : VT := fun ρ Q E => t ρ (fun d => ∃ p, d = .py p ∧ Q (.py (.dict [(kD k, p)]))) E
theorem vn_dict1 {j : Nat} {x : Str} {ps : Pos} (h : VE X b W e t) : VN X b W (.Dict [some (.Constant (.str x) j ps)] [e] pos) (vD1 (.inr x) t) :=
  pe_mono (pe_disp (pps_cons pe_str h pps_nil) rfl rfl (by simp) (by show 1 ≤ 15; decide)) fun σ H Q ⟨Zo, Z, ρ, Qd, Ed, v, q, l, m⟩ p hp => by
    have v1 := v.apart hp (o := .dK [])
    have nb : ¬ b.B p := fun z => v.fresh hp (v.zo p (v.zb p z))
    refine ⟨_, _, ρ, _, Ed, v1, q, fun y H1 d x1 g1 r1 ⟨pd, ed, q1⟩ => ?_, fun c z H1 er x1 g1 r1 q1 => m c z H1 er ((Ex.new hp).trans x1) g1 ?_ q1⟩
    · subst ed
      have e1 : H1 p = some (.dK []) := x1 p _ upd_same nb
      refine ⟨e1, [(.inr x, y)], rfl, (show 1 ≤ 15 by decide), ?_⟩
      have xx : Ex b H (upd H1 p (.dK [(.inr x, y)])) := fun a o e n => by
        rw [upd_ne (ne_of_none e hp)]
        exact x1 a o (by rw [upd_ne (ne_of_none e hp)]; exact e) n
      refine l _ _ (.py (.dict [(kD (.inr x), pd)])) xx (b.loc H1 _ (fun c hc => upd_ne fun e => nb (by rw [← e]; exact hc)) g1) ⟨p, rfl, hp, _, upd_same, .cons (Rq.mono (fun c z => .inl z) (fun c o e n => ?_) r1) .nil⟩ q1
      rw [upd_ne (fun e => n (.inr e))]
      exact e
    · obtain ⟨h1, h2⟩ := r1
      refine ⟨h1, h2.imp id ?_⟩
      rintro ⟨a, xs, e1, e2, e3, e4⟩
      exact ⟨a, xs, e1, e2, fun z => e3 (.inl z), e4.mono (fun c z => .inl (.inl z)) fun _ _ e _ => e⟩
end
end VL
set_option Elab.async false
set_option linter.all false
set_option maxRecDepth 100000
set_option maxHeartbeats 4000000
namespace VL
open PySem PySem.Spec PyProof.Rows L2

theorem bb_abs : bootBuiltins "abs" = some (.builtin "abs") := by decide +kernel
theorem bb_int : bootBuiltins "int" = some (.type "int") := by decide +kernel
theorem bb_str : bootBuiltins "str" = some (.type "str") := by decide +kernel
theorem bb_bool : bootBuiltins "bool" = some (.type "bool") := by decide +kernel
theorem bb_tuple : bootBuiltins "tuple" = some (.type "tuple") := by decide +kernel
theorem bb_list : bootBuiltins "list" = some (.type "list") := by decide +kernel
theorem bb_sum : bootBuiltins "sum" = some (.builtin "sum") := by decide +kernel
theorem bb_all : bootBuiltins "all" = some (.builtin "all") := by decide +kernel
theorem bb_any : bootBuiltins "any" = some (.builtin "any") := by decide +kernel
theorem bb_max : bootBuiltins "max" = some (.builtin "max") := by decide +kernel
theorem bb_min : bootBuiltins "min" = some (.builtin "min") := by decide +kernel
theorem bb_isi : bootBuiltins "isinstance" = some (.builtin "isinstance") := by decide +kernel
section
variable {X : Cx} {b : Bg} {W : WX} {e : Expr} {es : List Expr} {u : VA} {p pos : Pos} {t : VT}
theorem ve_abs (hg : Gl X "abs") (hm : X.mg "abs" = none) (ha : VXs X b W (e :: es) u) (he : starEach (e :: es) X.env = (false, eval e X.env) :: starEach es X.env := by rfl) (hpl : (backTo pos (starEach es X.env)).any (·.1) = false := by rfl) :
    VE X b W (.Call (.Name "abs" p) (e :: es) [] pos) (vCal gAbs u) := ve_callB call_abs rd_abs hg hm bb_abs ha (by decide) (by decide) he hpl
theorem ve_intC (hg : Gl X "int") (hm : X.mg "int" = none) (ha : VXs X b W (e :: es) u) (he : starEach (e :: es) X.env = (false, eval e X.env) :: starEach es X.env := by rfl) (hpl : (backTo pos (starEach es X.env)).any (·.1) = false := by rfl) :
    VE X b W (.Call (.Name "int" p) (e :: es) [] pos) (vCal gInt u) := ve_callTy (CallR.or call_int1 call_int_str) rd_int hg hm bb_int ha (by decide) (by decide) he hpl
theorem ve_strC (hg : Gl X "str") (hm : X.mg "str" = none) (ha : VXs X b W (e :: es) u) (he : starEach (e :: es) X.env = (false, eval e X.env) :: starEach es X.env := by rfl) (hpl : (backTo pos (starEach es X.env)).any (·.1) = false := by rfl) :
    VE X b W (.Call (.Name "str" p) (e :: es) [] pos) (vCal gStr u) := ve_callTy (CallR.or call_str_int SkE.call_str_str) rd_str hg hm bb_str ha (by decide) (by decide) he hpl
theorem ve_boolC (hg : Gl X "bool") (hm : X.mg "bool" = none) (ha : VXs X b W (e :: es) u) (he : starEach (e :: es) X.env = (false, eval e X.env) :: starEach es X.env := by rfl) (hpl : (backTo pos (starEach es X.env)).any (·.1) = false := by rfl) :
    VE X b W (.Call (.Name "bool" p) (e :: es) [] pos) (vCal gBool u) := ve_callTy call_bool1 rd_bool hg hm bb_bool ha (by decide) (by decide) he hpl
theorem ve_tupleC (hg : Gl X "tuple") (hm : X.mg "tuple" = none) (ha : VXs X b W (e :: es) u) (he : starEach (e :: es) X.env = (false, eval e X.env) :: starEach es X.env := by rfl) (hpl : (backTo pos (starEach es X.env)).any (·.1) = false := by rfl) :
    VE X b W (.Call (.Name "tuple" p) (e :: es) [] pos) (vCal gTuple u) := ve_callTy call_tupF rd_tuple hg hm bb_tuple ha (by decide) (by decide) he hpl
theorem vn_listC (hg : Gl X "list") (hm : X.mg "list" = none) (ha : VXs X b W (e :: es) u) (he : starEach (e :: es) X.env = (false, eval e X.env) :: starEach es X.env := by rfl) (hpl : (backTo pos (starEach es X.env)).any (·.1) = false := by rfl) :
    VN X b W (.Call (.Name "list" p) (e :: es) [] pos) (vCal gList u) := vn_callTy call_list_of rd_list hg hm bb_list ha (by decide) (by decide) he hpl
theorem ve_isi (hg : Gl X "isinstance") (hm : X.mg "isinstance" = none) (ha : VXs X b W (e :: es) u) (he : starEach (e :: es) X.env = (false, eval e X.env) :: starEach es X.env := by rfl) (hpl : (backTo pos (starEach es X.env)).any (·.1) = false := by rfl) :
    VE X b W (.Call (.Name "isinstance" p) (e :: es) [] pos) (vCal gIsi u) := ve_callB call_isi rd_isi hg hm bb_isi ha (by decide) (by decide) he hpl
theorem ve_tyInt (hg : Gl X "int") (hm : X.mg "int" = none) : VE X b W (.Name "int" pos) (vC (.raw (.ty "int"))) := ve_ty hg hm bb_int
theorem ve_tyBool (hg : Gl X "bool") (hm : X.mg "bool" = none) : VE X b W (.Name "bool" pos) (vC (.raw (.ty "bool"))) := ve_ty hg hm bb_bool
theorem ve_tyStr (hg : Gl X "str") (hm : X.mg "str" = none) : VE X b W (.Name "str" pos) (vC (.raw (.ty "str"))) := ve_ty hg hm bb_str
theorem ve_tyTuple (hg : Gl X "tuple") (hm : X.mg "tuple" = none) : VE X b W (.Name "tuple" pos) (vC (.raw (.ty "tuple"))) := ve_ty hg hm bb_tuple
theorem ve_tyList (hg : Gl X "list") (hm : X.mg "list" = none) : VE X b W (.Name "list" pos) (vC (.raw (.ty "list"))) := ve_ty hg hm bb_list
theorem ve_sum (hc : X.calm = true) (hg : Gl X "sum") (hm : X.mg "sum" = none) (ha : VXs X b W (e :: es) u) (he : starEach (e :: es) X.env = (false, eval e X.env) :: starEach es X.env := by rfl) (hpl : (backTo pos (starEach es X.env)).any (·.1) = false := by rfl) :
    VE X b W (.Call (.Name "sum" p) (e :: es) [] pos) (vCal gSum u) := ve_callB (cr_sum hc) rd_sum hg hm bb_sum ha (by decide) (by decide) he hpl
theorem ve_all (hc : X.calm = true) (hg : Gl X "all") (hm : X.mg "all" = none) (ha : VXs X b W (e :: es) u) (he : starEach (e :: es) X.env = (false, eval e X.env) :: starEach es X.env := by rfl) (hpl : (backTo pos (starEach es X.env)).any (·.1) = false := by rfl) :
    VE X b W (.Call (.Name "all" p) (e :: es) [] pos) (vCal gAll u) := ve_callB (cr_all hc) rd_all hg hm bb_all ha (by decide) (by decide) he hpl
theorem ve_any (hc : X.calm = true) (hg : Gl X "any") (hm : X.mg "any" = none) (ha : VXs X b W (e :: es) u) (he : starEach (e :: es) X.env = (false, eval e X.env) :: starEach es X.env := by rfl) (hpl : (backTo pos (starEach es X.env)).any (·.1) = false := by rfl) :
    VE X b W (.Call (.Name "any" p) (e :: es) [] pos) (vCal gAny u) := ve_callB (cr_any hc) rd_any hg hm bb_any ha (by decide) (by decide) he hpl
theorem ve_max (hc : X.calm = true) (hg : Gl X "max") (hm : X.mg "max" = none) (ha : VXs X b W (e :: es) u) (he : starEach (e :: es) X.env = (false, eval e X.env) :: starEach es X.env := by rfl) (hpl : (backTo pos (starEach es X.env)).any (·.1) = false := by rfl) :
    VE X b W (.Call (.Name "max" p) (e :: es) [] pos) (vCal gMax u) := ve_callB (CallR.or (call_max2 hc) (cr_max hc)) rd_max hg hm bb_max ha (by decide) (by decide) he hpl
theorem ve_min (hc : X.calm = true) (hg : Gl X "min") (hm : X.mg "min" = none) (ha : VXs X b W (e :: es) u) (he : starEach (e :: es) X.env = (false, eval e X.env) :: starEach es X.env := by rfl) (hpl : (backTo pos (starEach es X.env)).any (·.1) = false := by rfl) :
    VE X b W (.Call (.Name "min" p) (e :: es) [] pos) (vCal gMin u) := ve_callB (CallR.or (call_min2 hc) (cr_min hc)) rd_min hg hm bb_min ha (by decide) (by decide) he hpl
/-- a constant of the module that is an int -/
theorem ve_gint {x : Str} {i : Int} (hg : Gl X x) (hm : ∃ t, X.mg x = some (.int i t)) (hd : (x == ("__debug__" : Str)) = false := by decide) : VE X b W (.Name x pos) (vC (.py (.int i))) := by
  obtain ⟨t, h⟩ := hm
  exact ve_glob (v := .int i) hg h ⟨t, rfl⟩ (fun _ _ => .int i) hd
end
/-! ### a def that is called: all that its call wants -/
structure Cal (P : Program) (w : World) (K : PySem.W.Frag) (mg : Str → Option Value) (base : Heap) (b : Bg) (k : Nat) (x : Str) (ps : List Str) (S : SV) where
  f : Addr
  fd : FuncData
  F : FnOk P w K mg base (L2.CX P w) k f fd ps (spV b S)
  g : mg x = some (.ref f)
  kp : PySem.W.keepIn K (.ref f) = true
  bd : Binds K fd ps []
section
variable {X : Cx} {b : Bg} {W : WX} {k j : Nat} {x : Str} {ps : List Str} {S : SV} {e : Expr} {es : List Expr} {u : VA} {p pos : Pos}
theorem ve_cal (c : Cal X.prog X.w X.K X.mg X.base b k x ps S) (hr : Room j X.A) (tk : Takes X W) (hg : Gl X x) (ha : VAs X b W (e :: es) u) (hk : k ≤ j := by decide) (hdb : (x == ("__debug__" : Str)) = false := by decide)
    (he : starEach (e :: es) X.env = (false, eval e X.env) :: starEach es X.env := by rfl) (hpl : (backTo pos (starEach es X.env)).any (·.1) = false := by rfl) : VE X b W (.Call (.Name x p) (e :: es) [] pos) (vCall S u) :=
  ve_call c.F (hr.mono hk) tk hg c.g c.kp c.bd ha hdb he hpl
theorem ve_cal0 (c : Cal X.prog X.w X.K X.mg X.base b k x ps S) (hr : Room j X.A) (tk : Takes X W) (hg : Gl X x) (hk : k ≤ j := by decide) (hdb : (x == ("__debug__" : Str)) = false := by decide) : VE X b W (.Call (.Name x p) [] [] pos) (vCall S vNil) :=
  ve_call0 c.F (hr.mono hk) tk hg c.g c.kp c.bd hdb
end
section
variable {X : Cx} {b : Bg} {W : WX} {tg iter elt c : Expr} {ifs : List Expr} {scope : Scope} {own : List (Str × Nat)} {pos spos py : Pos} {ti : VIt} {js : List Nat} {g : VTg} {tt : VB} {te : VT} {i : Nat} {y : Str} {t : VT}
theorem LE.new : ∀ σ H Q, LE b W (RE b) t σ H Q → LE b W (RN b) t σ H Q := fun σ H Q ⟨Zo, Z, ρ, Qd, Ed, v, q, l, m⟩ => ⟨Zo, Z, ρ, Qd, Ed, v, q, fun u H' d x g ⟨a, e, n, o⟩ => by
  subst e
  exact l _ H' d x g (o.rp (fun _ z => .inl z) (v.fresh n)), m⟩
/-- name = [..] on one line, shared from then on -/
theorem vs_setLcE (hc : X.calm = true) (hN : X.N.Nodup) (hy : X.N[i]? = some y) (hyl : X.env.scope.names.lookup y = some .local) (hsw : swapsWith (.ListComp elt [⟨tg, iter, ifs, 0⟩] scope pos) (some (.Name y py)) spos.line X.env = pure true)
    (hi : VIb X b W tg iter ti) (ok : BlkOk X.N X.env.scope scope own) (hjs : ∀ j ∈ js, j ∈ own.map (·.2))
    (hg : ∀ (s : Shared) (H : Hp) (C : Addr) (cl : List (Str × Addr)) (fp : List Addr), VG (X.blk s H scope (compEnvC scope cl C X.env) fp) b tg js g) (ht : ∀ (s : Shared) (H : Hp) (C : Addr) (cl : List (Str × Addr)) (fp : List Addr), VTs (X.blk s H scope (compEnvC scope cl C X.env) fp) b ifs tt)
    (he : ∀ (s : Shared) (H : Hp) (C : Addr) (cl : List (Str × Addr)) (fp : List Addr), VE (X.blk s H scope (compEnvC scope cl C X.env) fp) b noW elt te) (hs : ∀ x, foldedSetIterable iter X.env x = pure x := by intro _; rfl) :
    VSt X b W (.Assign [.Name y py] (.ListComp elt [⟨tg, iter, ifs, 0⟩] scope pos) spos) (sSet i (vLc (own.map (·.2)) ti g tt te)) :=
  vs_set (ps_setLc hc hN hy hyl hsw hi ok hg ht he hs) fun σ H Q q => lc_sound hjs σ H Q (LE.new σ H Q q)
end
end VL
set_option Elab.async false
set_option linter.all false
set_option maxRecDepth 100000
set_option maxHeartbeats 4000000
namespace VL
open PySem PySem.Spec PyProof.Rows L2

@[simp] theorem szl : sizeLine = 16777216 := sizeLine_eq
@[simp] def asB : D → (Bool → Prop) → Prop
  | .py (.bool k), Q => Q k
  | _, _ => False
@[simp] def asI : D → (Int → Prop) → Prop
  | .py (.int k), Q => Q k
  | _, _ => False
@[simp] def asP : D → (PyData → Prop) → Prop
  | .py k, Q => Q k
  | _, _ => False
@[simp 2000] theorem ex_bool (d : D) (Q : Bool → Prop) : (∃ k, d = .py (.bool k) ∧ Q k) ↔ asB d Q := by
  refine ⟨fun ⟨k, e, q⟩ => by rw [e]; exact q, fun h => ?_⟩
  match d, h with
  | .py (.bool k), h => exact ⟨k, rfl, h⟩
@[simp 2000] theorem ex_int (d : D) (Q : Int → Prop) : (∃ k, d = .py (.int k) ∧ Q k) ↔ asI d Q := by
  refine ⟨fun ⟨k, e, q⟩ => by rw [e]; exact q, fun h => ?_⟩
  match d, h with
  | .py (.int k), h => exact ⟨k, rfl, h⟩
@[simp 2000] theorem ex_py (d : D) (Q : PyData → Prop) : (∃ k, d = .py k ∧ Q k) ↔ asP d Q := by
  refine ⟨fun ⟨k, e, q⟩ => by rw [e]; exact q, fun h => ?_⟩
  match d, h with
  | .py k, h => exact ⟨k, rfl, h⟩
@[simp 2000] theorem ex_pys (ds : List D) (Q : List PyData → Prop) : (∃ ps, pys ds = some ps ∧ Q ps) ↔ asO (pys ds) Q := by
  refine ⟨fun ⟨k, e, q⟩ => by rw [e]; exact q, asO_ex⟩
/-! ### comprehensions, loops: how their readings are met -/
/-- one turn of a comprehension -/
def lcStep (g : VTg) (tt : VB) (te : VT) (d : D) (ρ : VEnv) (k : Option PyData → Prop) : Prop :=
  g d ρ fun ρ1 => tt ρ1 (fun b => if b = true then te ρ1 (fun y => ∃ p, y = .py p ∧ k (some p)) noE else k none) noE
section
variable {g : VTg} {tt : VB} {te : VT} {ρ : VEnv} {Q : D → Prop}
theorem lcGo_cons {d : D} {ds : List D} {acc : List PyData} (h : lcStep g tt te d ρ fun o => match o with
    | some p => acc.length < sizeLine ∧ lcGo g tt te Q ds (acc ++ [p]) ρ
    | none => lcGo g tt te Q ds acc ρ) : lcGo g tt te Q (d :: ds) acc ρ := h
/-- every turn gives just f -/
theorem lc_fun (f : PyData → Option PyData) : ∀ {xs acc : List PyData}, (∀ x ∈ xs, ∀ k, k (f x) → lcStep g tt te (.py x) ρ k) → acc.length + xs.length < 16777216 → Q (.py (.list (acc ++ xs.filterMap f))) → lcGo g tt te Q (xs.map D.py) acc ρ
  | [], acc, _, _, q => by simpa using q
  | x :: xs, acc, h, hl, q => by
    refine lcGo_cons (h x List.mem_cons_self _ ?_)
    have hr : ∀ y ∈ xs, ∀ k, k (f y) → lcStep g tt te (.py y) ρ k := fun y hy => h y (List.mem_cons_of_mem _ hy)
    rw [List.length_cons] at hl
    rw [List.filterMap_cons] at q
    cases e : f x with
    | none => rw [e] at q; exact lc_fun f hr (by omega) q
    | some p =>
      rw [e] at q
      refine ⟨by rw [szl]; omega, lc_fun f hr (by rw [List.length_append, List.length_singleton]; omega) ?_⟩
      rw [List.append_assoc]
      exact q
/-- every turn keeps an item, with R -/
theorem lc_rel (R : PyData → PyData → Prop) : ∀ {xs acc : List PyData}, (∀ x ∈ xs, ∀ k, (∀ p, R x p → k (some p)) → lcStep g tt te (.py x) ρ k) → acc.length + xs.length < 16777216 →
    (∀ ps : List PyData, ps.length = xs.length → (∀ (i : Nat) (x p : PyData), xs[i]? = some x → ps[i]? = some p → R x p) → Q (.py (.list (acc ++ ps)))) → lcGo g tt te Q (xs.map D.py) acc ρ
  | [], acc, _, _, q => by
    have := q [] rfl (fun i x p e => by simp at e)
    simpa using this
  | x :: xs, acc, h, hl, q => by
    refine lcGo_cons (h x List.mem_cons_self _ fun p hp => ?_)
    rw [List.length_cons] at hl
    refine ⟨by rw [szl]; omega, lc_rel R (fun y hy => h y (List.mem_cons_of_mem _ hy)) (by rw [List.length_append, List.length_singleton]; omega) fun ps e r => ?_⟩
    rw [List.append_assoc]
    refine q (p :: ps) (by simp [e]) fun i y z e1 e2 => ?_
    cases i with
    | zero =>
      simp at e1 e2
      subst e1 e2
      exact hp
    | succ i => exact r i y z (by simpa using e1) (by simpa using e2)
/-- .. whatever its turn -/
theorem lc_mem (R : PyData → Prop) {xs acc : List PyData} (h : ∀ x ∈ xs, ∀ k, (∀ p, R p → k (some p)) → lcStep g tt te (.py x) ρ k) (hl : acc.length + xs.length < 16777216)
    (q : ∀ ps : List PyData, ps.length = xs.length → (∀ p ∈ ps, R p) → Q (.py (.list (acc ++ ps)))) : lcGo g tt te Q (xs.map D.py) acc ρ :=
  lc_rel (fun _ p => R p) h hl fun ps e r => q ps e fun p hp => by
    obtain ⟨i, hi⟩ := List.getElem?_of_mem hp
    have hlt : i < xs.length := by rw [← e]; exact (List.getElem?_eq_some_iff.mp hi).1
    exact r i xs[i] p (List.getElem?_eq_getElem hlt) hi
end
section
variable {g : VTg} {tb : VS} {De : VEnds}
/-- a loop by its turns: Iv ahead of turn i -/
theorem for_inv (Iv : Nat → VEnv → Prop) {xs : List PyData} (h : ∀ i x ρ, xs[i]? = some x → Iv i ρ → ∀ nx ct : VEnv → Prop, (∀ ρ', Iv (i + 1) ρ' → nx ρ' ∧ ct ρ') → g (.py x) ρ fun ρ1 => tb ρ1 ⟨nx, De.rt, De.nx, ct, De.ex⟩) (hd : ∀ ρ, Iv xs.length ρ → De.nx ρ) :
    ∀ {ρ : VEnv}, Iv 0 ρ → forGo g tb (xs.map D.py) ρ De := by
  have go : ∀ (n : Nat) (ρ : VEnv), Iv n ρ → n ≤ xs.length → forGo g tb ((xs.drop n).map D.py) ρ De := by
    intro n
    induction hk : xs.length - n generalizing n with
    | zero =>
      intro ρ iv hn
      have e : n = xs.length := by omega
      subst e
      rw [List.drop_length]
      exact hd ρ iv
    | succ m ih =>
      intro ρ iv hn
      have hlt : n < xs.length := by omega
      rw [List.drop_eq_getElem_cons hlt, List.map_cons]
      exact h n xs[n] ρ (List.getElem?_eq_getElem hlt) iv _ _ fun ρ' iv' => ⟨ih (n + 1) (by omega) ρ' iv' hlt, ih (n + 1) (by omega) ρ' iv' hlt⟩
  intro ρ iv
  have := go 0 ρ iv (Nat.zero_le _)
  rwa [List.drop_zero] at this
end
/-! ### plain data -/
@[simp] theorem eqv_lnil (xs : List PyData) : (PyData.list xs).eqv (.list []) = xs.isEmpty := by cases xs <;> rfl
@[simp] theorem eqv_tnil (xs : List PyData) : (PyData.tuple xs).eqv (.tuple []) = xs.isEmpty := by cases xs <;> rfl
@[simp] theorem eqv_lt (xs ys : List PyData) : (PyData.list xs).eqv (.tuple ys) = false := rfl
@[simp] theorem eqv_tl (xs ys : List PyData) : (PyData.tuple xs).eqv (.list ys) = false := rfl
@[simp] theorem eqv_ii (i j : Int) : (PyData.int i).eqv (.int j) = (i == j) := rfl
@[simp] theorem eqv_ss (i j : Str) : (PyData.str i).eqv (.str j) = (i == j) := rfl
@[simp] theorem plain_none : PyData.none.plain = true := rfl
@[simp] theorem plain_bool (k : Bool) : (PyData.bool k).plain = true := rfl
@[simp] theorem plain_int (i : Int) : (PyData.int i).plain = true := rfl
@[simp] theorem plain_str (i : Str) : (PyData.str i).plain = true := rfl
@[simp] theorem plain_list (xs : List PyData) : (PyData.list xs).plain = PyData.plainAll xs := by simp only [PyData.plain]
@[simp] theorem plain_tuple (xs : List PyData) : (PyData.tuple xs).plain = PyData.plainAll xs := by simp only [PyData.plain]
@[simp] theorem plainAll_nil : PyData.plainAll [] = true := rfl
@[simp] theorem plainAll_cons (x : PyData) (xs : List PyData) : PyData.plainAll (x :: xs) = (x.plain && PyData.plainAll xs) := by simp only [PyData.plainAll]
@[simp] theorem plainAll_ints (xs : List Int) : PyData.plainAll (xs.map PyData.int) = true := plain_ints xs
@[simp] theorem depth_nil : (PyData.list []).depth = 1 := rfl
@[simp] theorem depth_tnil : (PyData.tuple []).depth = 1 := rfl
@[simp] theorem depth_int (i : Int) : (PyData.int i).depth = 0 := rfl
@[simp] theorem depth_str (i : Str) : (PyData.str i).depth = 0 := rfl
@[simp] theorem depth_none : PyData.none.depth = 0 := rfl
@[simp] theorem depth_bool (k : Bool) : (PyData.bool k).depth = 0 := rfl
@[simp] theorem depth_list (xs : List PyData) : (PyData.list xs).depth = PyData.depthAll xs + 1 := by simp only [PyData.depth]
@[simp] theorem depth_tuple (xs : List PyData) : (PyData.tuple xs).depth = PyData.depthAll xs + 1 := by simp only [PyData.depth]
@[simp] theorem depthAll_nil : PyData.depthAll [] = 0 := rfl
@[simp] theorem depthAll_cons (x : PyData) (xs : List PyData) : PyData.depthAll (x :: xs) = max x.depth (PyData.depthAll xs) := by simp only [PyData.depthAll]
end VL
namespace VL
open PySem PySem.Spec PyProof.Rows L2
@[simp] theorem cpow_iff (i j : Int) : CPow i j ↔ (0 ≤ j ∧ j ≤ 1000000 ∧ i.natAbs < 2 ^ 64) := Iff.rfl
@[simp] theorem cdivn_iff (i j : Int) : CDivN i j ↔ (j ≠ 0 ∧ j.natAbs < 1073741824) := Iff.rfl
@[simp] theorem cmul_iff (i j : Int) : CMul i j ↔ ((-(2 ^ 64) < i ∧ i < 2 ^ 64) ∨ (-(2 ^ 64) < j ∧ j < 2 ^ 64)) := Iff.rfl
end VL
namespace VL
open PySem PySem.Spec PyProof.Rows L2
theorem atI_ok {α : Type} {xs : List α} {i : Int} (h0 : 0 ≤ i) (h1 : i < xs.length) : ∃ d, atI xs i = some d ∧ d ∈ xs := by
  obtain ⟨j, rfl⟩ := Int.eq_ofNat_of_zero_le h0
  have hj : j < xs.length := by omega
  exact ⟨xs[j], atI_nat (List.getElem?_eq_getElem hj), List.getElem_mem hj⟩
theorem mem_rangeP {lo : Int} {n : Nat} {d : PyData} (h : d ∈ rangeP lo n) : ∃ k : Nat, k < n ∧ d = .int (lo + k) := by
  unfold rangeP at h
  obtain ⟨k, hk, rfl⟩ := List.mem_map.mp h
  exact ⟨k, List.mem_range.mp hk, rfl⟩
@[simp] theorem rangeP_len (lo : Int) (n : Nat) : (rangeP lo n).length = n := by simp [rangeP]
/-- ints, all with P -/
theorem ints_of {P : Int → Prop} : ∀ {ps : List PyData}, (∀ p ∈ ps, ∃ g, p = PyData.int g ∧ P g) → ∃ gs : List Int, ps = gs.map PyData.int ∧ ∀ g ∈ gs, P g
  | [], _ => ⟨[], rfl, fun _ h => nomatch h⟩
  | p :: ps, h => by
    obtain ⟨g, rfl, hg⟩ := h p List.mem_cons_self
    obtain ⟨gs, rfl, hs⟩ := ints_of fun q hq => h q (List.mem_cons_of_mem _ hq)
    exact ⟨g :: gs, rfl, fun x hx => (List.mem_cons.mp hx).elim (fun e => by rw [e]; exact hg) (hs x)⟩
end VL
set_option Elab.async false
set_option linter.all false
set_option maxRecDepth 100000
set_option maxHeartbeats 4000000
namespace VL
open PySem PySem.Spec PyProof.Rows L2

/-! ### the law: the first statement makes the bag, the rest is read over values -/
theorem pss_ex {X : Cx} {sts : List Stmt} {α : Type} {t : α → TS} (h : ∀ x, PSs X sts (t x)) : PSs X sts (fun D σ H => ∃ x, t x D σ H) := ⟨fun pins s σ H D I ⟨x, q⟩ => (h x).run pins s σ H D I q⟩
def spLaw (K : PySem.W.Frag) : Sp := fun vs H Q _ => ∃ (a : Addr) (ns : List Int), vs = [.ref a] ∧ SqL K H a (ns.map V.int) ∧ ns.length ≤ 63 ∧ ∀ H', Q (.bl true) H'
/-- the names' values behind the first statement: the bag in slot i -/
def envBag (n i : Nat) (r : Addr) : VEnv := (List.replicate n Slot.un).set i (.shr (.raw (.ref r)))
abbrev isTrue' : D → Prop := fun d => d = .py (.bool true)
theorem envBag_at {n i j : Nat} {r : Addr} {s : Slot} (h : (envBag n i r)[j]? = some s) : s = .un ∨ (j = i ∧ s = .shr (.raw (.ref r))) := by
  unfold envBag at h
  by_cases e : i = j
  · subst e
    by_cases hn : i < n
    · rw [List.getElem?_set_self (by simpa using hn)] at h; cases h; exact .inr ⟨rfl, rfl⟩
    · rw [List.getElem?_eq_none (by simp; omega)] at h; cases h
  · rw [List.getElem?_set_ne e, List.getElem?_replicate] at h
    split at h
    · cases h; exact .inl rfl
    · cases h
theorem law_rest {cls : Str → Addr} {r l1 l2 : Addr} {gs ds : List Int} {n : Int} {H : Hp} {N : List Str} {i : Nat} {a : Addr} {t : VS} {Q : VK} {E : XK} (hb : bagAt r l1 l2 gs ds n H) (h0 : 0 < N.length) (hi : i < N.length)
    (law : t (envBag N.length i r) (fin isTrue' noE)) (q : ∀ H', Q (.bl true) H') : LS (bagB cls r l1 l2) (WF E) t { nx := fun _ H' => Q .non H', rt := Q } ((L2.start N [.ref a]).set i (some (.ref r))) H := by
  have hG : (bagB cls r l1 l2).G H := ⟨gs, ds, n, hb⟩
  have hl : (L2.start N [V.ref a]).length = N.length := by
    unfold L2.start
    rw [List.length_append, List.length_map, List.length_replicate, List.length_singleton]
    omega
  refine ⟨H, fun _ => False, (bagB cls r l1 l2).B, (bagB cls r l1 l2).B, _, _, ⟨⟨hG, fun _ z => z, fun _ z => z, fun a z => (bagB cls r l1 l2).dom H a hG z, fun _ z => .inl z, fun j d e => ?_, fun j k d e c h1 _ _ _ => ?_, fun j d e => ?_, ?_⟩, fun _ _ e _ _ => e, fun j d c h1 _ => ?_⟩, law, ⟨fun _ _ _ _ _ h => (by cases h), fun v H' d _ _ rp h => ?_, fun _ _ _ _ _ h => h.elim, fun _ _ _ _ _ h => h.elim, fun _ _ _ _ _ _ _ _ _ h => h.elim⟩⟩
  · rcases envBag_at e with h | ⟨_, h⟩ <;> cases h
  · rcases envBag_at h1 with h | ⟨_, h⟩ <;> cases h
  · rcases envBag_at e with h | ⟨ej, h⟩
    · cases h
    · cases h
      subst ej
      exact ⟨.ref r, List.getElem?_set_self (by rw [hl]; exact hi), rfl⟩
  · unfold envBag
    rw [List.length_set, List.length_replicate, List.length_set, hl]
  · rcases envBag_at h1 with h | ⟨_, h⟩ <;> cases h
  · have h' : d = .py (.bool true) := h
    subst h'
    have rp' : Rq (bagB cls r l1 l2).B H' v (.bool true) := rp
    cases rp'
    exact q H'
section
variable {P : Program} {w : World} {K : PySem.W.Frag} {mg : Str → Option Value} {base : Heap} {k k0 : Nat} {st : Stmt} {f fo : Addr} {fd fdo : FuncData} {N : List Str}
theorem lawV {cls : Str → Addr} {i : Nat} {t : Addr → VS} {p1 p2 p3 p4 p5 : Pos} {rest : List Stmt} {nm : Str} (F : Fun K nm nm st f fd) (Sc : FnScope N ["_law_script"] (defScope st))
    (hst : defBody st = .Assign [.Name "_law_bag" p1] (.Call (.Name "_law_opened" p2) [.Name "_law_script" p3] [] p4) p5 :: rest)
    (FO : FnOk P w K mg base (L2.CX P w) k0 fo fdo ["_law_script"] (spOpened K)) (gO : mg "_law_opened" = some (.ref fo)) (kO : PySem.W.keepIn K (.ref fo) = true) (bO : Binds K fdo ["_law_script"] []) (hk : k0 ≤ k)
    (hi : N[i]? = some ("_law_bag" : Str)) (h0 : N[0]? = some ("_law_script" : Str)) (hloc : Loc (defScope st) ("_law_bag" : Str)) (hloc0 : (defScope st).names.lookup ("_law_script" : Str) = some .local) (hgl : (defScope st).names.lookup ("_law_opened" : Str) = some .globalImplicit)
    (hbody : ∀ (r l1 l2 : Addr) (cdv : Value) (A : Around) (outer : List Env) (s : Shared) (H : Hp) (E : XK), Room k (A.deeper (envOfC nm (defScope st) s.heap.objs.size f cdv)) → (A.deeper (envOfC nm (defScope st) s.heap.objs.size f cdv)).guards = some [] →
      Takes (cxOf (L2.CX P w) P w K mg base N nm (defScope st) f cdv A outer s H E) (WF E) → VSs (cxOf (L2.CX P w) P w K mg base N nm (defScope st) f cdv A outer s H E) (bagB cls r l1 l2) (WF E) rest (t r))
    (law : ∀ r, t r (envBag N.length i r) (fin isTrue' noE)) : FnG P w K mg base (k + 1) f fd ["_law_script"] (spLaw K) := by
  refine fnG F Sc (fun vs H Q E ⟨a, ns, e, _⟩ => by rw [e]; rfl) fun cdv A outer s H vs Q E hr hg ⟨a, ns, ev, hS, hl, q⟩ => ?_
  subst ev
  rw [hst]
  have tk : Takes (cxOf (L2.CX P w) P w K mg base N nm (defScope st) f cdv A outer s H E) (WF E) := takes_of rfl rfl rfl rfl
  have hN0 : 0 < N.length := (List.getElem?_eq_some_iff.mp h0).1
  have hNi : i < N.length := (List.getElem?_eq_some_iff.mp hi).1
  refine ⟨_, pss_cons (ps_set (X := cxOf (L2.CX P w) P w K mg base N nm (defScope st) f cdv A outer s H E) (i := i) Sc.nd hi hloc (pe_callS FO (hr.mono hk) ?_ gO kO bO (fun σ => passAt tk σ) (pa_cons (pe_var h0 (.inl hloc0)) pa_nil)) (by rfl) (.inl rfl))
    (pss_ex fun r => pss_ex fun l1 => pss_ex fun l2 => hbody r l1 l2 cdv A outer s H E hr hg tk), ?_⟩
  · exact hgl
  · refine ⟨.ref a, ?_, a, ns, rfl, hS, hl, fun r l1 l2 gs ds n H' _ _ _ _ bag => ⟨r, l1, l2, law_rest bag hN0 hNi (law r) q⟩⟩
    unfold L2.start
    rfl
end
end VL
set_option Elab.async false
set_option linter.all false
set_option maxRecDepth 100000
set_option maxHeartbeats 4000000
namespace VL
open PySem PySem.Spec PyProof.Rows L2 HT
/-! ### slices as take and drop -/
theorem cutL_len {α : Type} (xs : List α) (lo hi : Option Int) : (cutL xs lo hi).length ≤ xs.length := by
  unfold cutL
  rw [List.length_take, List.length_drop]
  omega
theorem cutL_mem {α : Type} {xs : List α} {lo hi : Option Int} {y : α} (h : y ∈ cutL xs lo hi) : y ∈ xs := List.mem_of_mem_drop (List.mem_of_mem_take h)
theorem cutL_take {α : Type} (xs : List α) {x : Int} (h : 0 ≤ x) : cutL xs none (some x) = xs.take x.toNat := by
  simp only [cutL, HT.sIx]
  rw [if_neg (by omega), List.drop_zero, Nat.sub_zero]
  by_cases c : x.toNat ≤ xs.length
  · rw [Nat.min_eq_left c]
  · rw [Nat.min_eq_right (by omega), List.take_length, List.take_of_length_le (by omega)]
theorem cutL_drop {α : Type} (xs : List α) {x : Int} (h : 0 ≤ x) : cutL xs (some x) none = xs.drop x.toNat := by
  simp only [cutL, HT.sIx]
  rw [if_neg (by omega)]
  by_cases c : x.toNat ≤ xs.length
  · rw [Nat.min_eq_left c, List.take_of_length_le (by rw [List.length_drop]; omega)]
  · rw [Nat.min_eq_right (by omega), List.drop_length, List.take_nil, List.drop_of_length_le (by omega)]
theorem cutL_but {α : Type} (xs : List α) : cutL xs none (some (-1)) = xs.dropLast := by
  simp only [cutL, HT.sIx]
  rw [if_pos (by omega), List.drop_zero, Nat.sub_zero, List.dropLast_eq_take]
  congr 1
  omega
theorem atI_neg1 {α : Type} {xs : List α} (h : xs ≠ []) : ∃ d, atI xs (-1) = some d ∧ d ∈ xs := by
  have := List.length_pos_iff.mpr h
  refine ⟨xs[xs.length - 1], ?_, List.getElem_mem _⟩
  have e : ixN xs.length (-1) = some (xs.length - 1) := by
    unfold ixN
    rw [if_neg (by decide), if_pos (by omega)]
    exact congrArg some (by omega)
  unfold atI
  rw [e]
  exact List.getElem?_eq_getElem (by omega)
end VL
set_option Elab.async false
set_option linter.all false
set_option maxRecDepth 100000
set_option maxHeartbeats 4000000
namespace VL
open PySem PySem.Spec PyProof.Rows L2 HT
/-! ### the facts of a def, for the join -/
structure DefK (K : PySem.W.Frag) (x : Str) (st : Stmt) : Prop where
  ex : ∃ (f : Addr) (oc kV doc pm cdv ct : Value) (od an : Option Addr) (osl : Array (Option Value)), PySem.W.nsIn K mainGlobals x = some (some (.ref f)) ∧ K.lookup f = some ⟨oc, od, .func (PySem.W.fnOf x x (defArgs st) (defBody st) (defScope st) .none kV doc pm an cdv ct), osl⟩ ∧ PySem.W.codeIn K cdv x = true ∧ PySem.W.keepIn K (.ref f) = true
theorem defK {K : PySem.W.Frag} {x : Str} {st : Stmt} {f : Addr} {oc kV doc pm cdv ct : Value} {od an : Option Addr} {osl : Array (Option Value)} (a : PySem.W.nsIn K mainGlobals x = some (some (.ref f)))
    (l : K.lookup f = some ⟨oc, od, .func (PySem.W.fnOf x x (defArgs st) (defBody st) (defScope st) .none kV doc pm an cdv ct), osl⟩) (c : PySem.W.codeIn K cdv x = true) (k : PySem.W.keepIn K (.ref f) = true) : DefK K x st := ⟨f, oc, kV, doc, pm, cdv, ct, od, an, osl, a, l, c, k⟩
theorem DefK.use {K : PySem.W.Frag} {x : Str} {st : Stmt} {h : Heap} {mg : Str → Option Value} (d : DefK K x st) (X : K.In h) (G : h.Ns mainGlobals mg) : ∃ (f : Addr) (fd : FuncData), Fun K x x st f fd ∧ mg x = some (.ref f) ∧ PySem.W.keepIn K (.ref f) = true ∧ fd.defaults = .none := by
  obtain ⟨f, oc, kV, doc, pm, cdv, ct, od, an, osl, a, l, c, k⟩ := d.ex
  exact ⟨f, _, fun_mk l c k, PySem.W.mg_of X G a, k, rfl⟩
end VL
set_option Elab.async false
set_option linter.all false
set_option maxRecDepth 100000
set_option maxHeartbeats 4000000
namespace VL
open PySem PySem.Spec PyProof.Rows L2 HT
/-! ### an owned list is changed by a method -/
def MutD (b : Bg) (r : V → List V → Hp → VK → Prop) (g : List PyData → List D → (D → List PyData → Prop) → Prop) : Prop :=
  ∀ (Z : Addr → Prop) (H : Hp) (a : Addr) (xs : List V) (vs : List V) (p : List PyData) (ds : List D) (Q : VK) (Qd : D → List PyData → Prop), H a = some (.lst xs) → Rqs Z H xs p → Rps b Z H vs ds → g p ds Qd →
    (∀ v ys q dv, Rqs Z H ys q → Rp b Z H v dv → Qd dv q → Q v (upd H a (.lst ys))) → r (.ref a) vs H Q
@[simp] def sMut (i : Nat) (g : List PyData → List D → (D → List PyData → Prop) → Prop) (ta : VA) : VS := fun ρ De => ∃ p, ρ[i]? = some (.own (.py (.list p))) ∧ ta ρ (fun ds => g p ds fun _ q => De.nx (ρ.set i (.own (.py (.list q))))) (De.ex ρ)
section
variable {X : Cx} {b : Bg} {W : WX} {o e : Expr} {es : List Expr} {ta : VA} {i : Nat} {name : Str} {id : String} {apos cpos pos : Pos} {r : V → List V → Hp → VK → Prop} {g : List PyData → List D → (D → List PyData → Prop) → Prop}
theorem vs_mut (slot : PySem.Slot "list" name id) (hty : typeOf (.builtin id) = pure (.type "method_descriptor")) (hm : MtR X id r) (hd : MutD b r g) (ho : PE X o (tVar i)) (ha : VAs X b W (e :: es) ta)
    (hbase : attributeBase o name X.env (eval o X.env) = eval o X.env := by rfl)
    (hfew : ((backTo cpos (starEach (e :: es) X.env)).all (fun x => !x.1) && (backToKw cpos (keywordEach [] X.env)).all (fun x => x.1.isSome)
      && decide ((e :: es).length + ([] : List Keyword).length + (if ([] : List Keyword).isEmpty then 0 else 1) < 30)) = true := by rfl)
    (hline : (apos.endLine == cpos.line) = true := by rfl) (hs : starEach (e :: es) X.env = (false, eval e X.env) :: starEach es X.env := by rfl) (hplain : (backTo cpos (starEach es X.env)).any (·.1) = false := by rfl)
    (hsw : swapsWith (.Call (.Attribute o name apos) (e :: es) [] cpos) none pos.line X.env = pure false := by rfl) :
    VSt X b W (.Expr (.Call (.Attribute o name apos) (e :: es) [] cpos) pos) (sMut i g ta) :=
  ps_mono (ps_expr (pe_bm PySem.F.plainAttrs_list slot hty hm ho ha hbase hfew hline hs hplain) hsw) fun Dn σ H ⟨H0, M, Zo, Z, ρ, De, f, ⟨p, e1, q⟩, l⟩ => by
    obtain ⟨a, h1, h2, h3, xs, h4, h5⟩ := f.v.own i _ e1
    refine ⟨.ref a, h1, .inl ⟨rfl, xs, SqL.of h4⟩, Zo, Z, ρ, _, _, f.v, q, fun vs H' ds x g1 r1 q' => ?_, l.er f⟩
    have f' := f.ex x g1
    obtain ⟨a', h1', h2', h3', xs', h4', h5'⟩ := f'.v.own i _ e1
    rw [h1] at h1'; cases h1'
    refine hd Z H' a xs' vs p ds _ _ h4' h5' r1 q' fun v ys pq dv ry rv q2 => ?_
    exact l.nx _ _ _ _ (f'.mut (d' := .py (.list pq)) e1 h1 ⟨ys, upd_same, ry.mono (fun c z => .inl z) fun c u e n => by
      rw [upd_ne (fun w => n (by rw [w]; exact h2))]
      exact e⟩) q2
/-- append -/
@[simp] def gApp : List PyData → List D → (D → List PyData → Prop) → Prop
  | p, [.py x], Q => p.length < sizeLine ∧ Q (.py .none) (p ++ [x])
  | _, _, _ => False
theorem rd_app : MutD b rAppend gApp := by
  intro Z H a xs vs p ds Q Qd h rx rv g k
  match ds, g, rv with
  | [.py x], ⟨hl, q⟩, .cons (v := v) rv .nil => exact ⟨a, xs, v, rfl, rfl, h, by rw [rx.length]; exact hl, k _ _ _ (.py .none) (rx.append (.cons rv .nil)) (Rq.non : Rq Z H .non .none) q⟩
theorem vs_app (ho : PE X o (tVar i)) (ha : VAs X b W [e] ta) (hbase : attributeBase o "append" X.env (eval o X.env) = eval o X.env := by rfl)
    (hfew : ((backTo cpos (starEach [e] X.env)).all (fun x => !x.1) && (backToKw cpos (keywordEach [] X.env)).all (fun x => x.1.isSome)
      && decide ([e].length + ([] : List Keyword).length + (if ([] : List Keyword).isEmpty then 0 else 1) < 30)) = true := by rfl)
    (hline : (apos.endLine == cpos.line) = true := by rfl) (hs : starEach [e] X.env = (false, eval e X.env) :: starEach [] X.env := by rfl) (hplain : (backTo cpos (starEach [] X.env)).any (·.1) = false := by rfl)
    (hsw : swapsWith (.Call (.Attribute o "append" apos) [e] [] cpos) none pos.line X.env = pure false := by rfl) :
    VSt X b W (.Expr (.Call (.Attribute o "append" apos) [e] [] cpos) pos) (sMut i gApp ta) :=
  vs_mut PySem.F.slot_list_append PySem.F.type_list_append mt_append rd_app ho ha hbase hfew hline hs hplain hsw
end
end VL
set_option Elab.async false
set_option linter.all false
set_option maxRecDepth 100000
set_option maxHeartbeats 4000000
namespace VL
open PySem PySem.Spec PyProof.Rows L2 HT
/-! ### dicts with keys int or text: read, get, put -/
def keyOf : PyData → Option Key
  | .int i => some (.inl i)
  | .str x => some (.inr x)
  | _ => none
@[simp] theorem keyOf_kD (k : Key) : keyOf (kD k) = some k := by cases k <;> rfl
def getD (ds : List (PyData × PyData)) (k : Key) : Option PyData := (ds.find? fun p => decide (keyOf p.1 = some k)).map (·.2)
def putD (ds : List (PyData × PyData)) (k : Key) (x : PyData) : List (PyData × PyData) :=
  if (ds.any fun p => decide (keyOf p.1 = some k)) = true then ds.map (fun p => if keyOf p.1 = some k then (p.1, x) else p) else ds ++ [(kD k, x)]
section
variable {Z : Addr → Prop} {H : Hp}
theorem Rqk.any {k : Key} : ∀ {kvs : List (Key × V)} {ds : List (PyData × PyData)}, Rqk Z H kvs ds → (kvs.any fun kv => decide (kv.1 = k)) = (ds.any fun p => decide (keyOf p.1 = some k))
  | _, _, .nil => rfl
  | _, _, .cons (k := k') r t => by
    rw [List.any_cons, List.any_cons, Rqk.any t]
    simp [-kD]
theorem Rqk.get {k : Key} : ∀ {kvs : List (Key × V)} {ds : List (PyData × PyData)}, Rqk Z H kvs ds → (valV kvs k = none ∧ getD ds k = none) ∨ ∃ v d, valV kvs k = some v ∧ getD ds k = some d ∧ Rq Z H v d
  | _, _, .nil => .inl ⟨rfl, rfl⟩
  | _, _, .cons (k := k') (v := v) (d := d) r t => by
    by_cases e : k' = k
    · exact .inr ⟨v, d, valV_pos e, by simp [-kD, getD, List.find?_cons, e], r⟩
    · have h1 : ∀ r, valV ((k', v) :: r) k = valV r k := fun r => valV_neg e
      have h2 : ∀ ds, getD ((kD k', d) :: ds) k = getD ds k := fun ds => by simp [-kD, getD, List.find?_cons, e]
      rcases Rqk.get (k := k) t with ⟨a, c⟩ | ⟨v', d', a, c, q⟩
      · exact .inl ⟨by rw [h1]; exact a, by rw [h2]; exact c⟩
      · exact .inr ⟨v', d', by rw [h1]; exact a, by rw [h2]; exact c, q⟩
theorem Rqk.map {k : Key} {v : V} {x : PyData} (rx : Rq Z H v x) : ∀ {kvs : List (Key × V)} {ds : List (PyData × PyData)}, Rqk Z H kvs ds → Rqk Z H (kvs.map fun kv => if kv.1 = k then (kv.1, v) else kv) (ds.map fun p => if keyOf p.1 = some k then (p.1, x) else p)
  | _, _, .nil => .nil
  | _, _, .cons (k := k') r t => by
    rw [List.map_cons, List.map_cons]
    by_cases e : k' = k
    · simp only [keyOf_kD, e, if_true]
      exact .cons rx (Rqk.map rx t)
    · simp only [keyOf_kD, Option.some.injEq, e, if_false]
      exact .cons r (Rqk.map rx t)
theorem Rqk.snoc {k : Key} {v : V} {x : PyData} (rx : Rq Z H v x) : ∀ {kvs : List (Key × V)} {ds : List (PyData × PyData)}, Rqk Z H kvs ds → Rqk Z H (kvs ++ [(k, v)]) (ds ++ [(kD k, x)])
  | _, _, .nil => .cons rx .nil
  | _, _, .cons r t => .cons r (Rqk.snoc rx t)
theorem Rqk.put {k : Key} {v : V} {x : PyData} {kvs : List (Key × V)} {ds : List (PyData × PyData)} (rx : Rq Z H v x) (t : Rqk Z H kvs ds) : Rqk Z H (putK kvs k v) (putD ds k x) := by
  unfold putK putD
  rw [t.any]
  split
  · exact t.map rx
  · exact t.snoc rx
end
end VL
set_option Elab.async false
set_option linter.all false
set_option maxRecDepth 100000
set_option maxHeartbeats 4000000
namespace VL
open PySem PySem.Spec PyProof.Rows L2 HT
section
variable {b : Bg} {Zo Z : Addr → Prop} {σ : L2.St} {H H' : Hp} {ρ : VEnv}
theorem VOk.rqk (v : VOk b Zo Z σ H ρ) (x : Ex b H H') {u : List (Key × V)} {d : List (PyData × PyData)} (r : Rqk Z H u d) : Rqk Z H' u d := r.mono (fun a z => .inl z) (v.keep x)
/-- a borrowed dict -/
theorem VOk.rdict (v : VOk b Zo Z σ H ρ) {u : V} {ds : List (PyData × PyData)} (r : Rb b Z H u (.py (.dict ds))) : ∃ a kvs, u = .ref a ∧ H a = some (.dK kvs) ∧ ¬ b.B a ∧ Rqk Z H kvs ds := by
  rcases r with r | ⟨a, e, nb, _, kvs, h, rk⟩
  · have r : Rq Z H u (.dict ds) := r
    cases r with
    | dct h n rk => exact ⟨_, _, rfl, h, v.nb n, rk⟩
  · exact ⟨a, kvs, e, h, nb, rk⟩
theorem Rq.key {u : V} {p : PyData} {k : Key} (r : Rq Z H u p) (e : keyOf p = some k) : u = kV k := by
  cases p <;> simp only [keyOf] at e <;> cases e
  · cases r; rfl
  · cases r; rfl
end
@[simp] def vDGet2 (td ty tx : VT) : VT := fun ρ Q E => td ρ (fun d => ∃ ds, d = .py (.dict ds) ∧ ty ρ (fun y => ∃ k kk, y = .py k ∧ keyOf k = some kk ∧ tx ρ (fun z => ∃ p, z = .py p ∧ Q (.py ((getD ds kk).getD p))) E) E) E
@[simp] def vDGet1 (td ty : VT) : VT := fun ρ Q E => td ρ (fun d => ∃ ds, d = .py (.dict ds) ∧ ty ρ (fun y => ∃ k kk, y = .py k ∧ keyOf k = some kk ∧ Q (.py ((getD ds kk).getD .none))) E) E
@[simp] def vDIx (td ty : VT) : VT := fun ρ Q E => td ρ (fun d => ∃ ds, d = .py (.dict ds) ∧ ty ρ (fun y => ∃ k kk x, y = .py k ∧ keyOf k = some kk ∧ getD ds kk = some x ∧ Q (.py x)) E) E
section
variable {X : Cx} {b : Bg} {W : WX} {o e f : Expr} {td ty tx : VT} {apos cpos pos pos' : Pos} {i : Nat}
theorem ve_dget2 (hu : X.A.units + 1 < cLine) (ho : VX X b W o td) (he : VE X b W e ty) (hf : VE X b W f tx) (m : M2 X o "get" apos e f cpos) : VE X b W (.Call (.Attribute o "get" apos) [e, f] [] cpos) (vDGet2 td ty tx) :=
  pe_mono (pe_dget2 hu ho he hf m) fun σ H Q ⟨Zo, Z, ρ, Qd, Ed, v, q, l, me⟩ => ⟨Zo, Z, ρ, _, Ed, v, q, fun x H1 d x1 g1 r1 ⟨ds, ed, q1⟩ => by
    subst ed
    have v1 := v.ex x1 g1
    obtain ⟨a, kvs, rfl, h, nb, rk⟩ := v1.rdict r1
    refine ⟨a, rfl, .inl ⟨kvs, .inl h⟩, Zo, Z, ρ, _, Ed, v1, q1, fun y H2 dy x2 g2 r2 ⟨k, kk, ey, ek, q2⟩ => ?_, fun c y H2 er x2 g2 r2 q2 => me c y H2 er (x1.trans x2) g2 r2 q2⟩
    subst ey
    have v2 := v1.ex x2 g2
    refine ⟨Zo, Z, ρ, _, Ed, v2, q2, fun z H3 dz x3 g3 r3 ⟨p, ez, q3⟩ => ?_, fun c y H3 er x3 g3 r3 q3 => me c y H3 er ((x1.trans x2).trans x3) g3 r3 q3⟩
    subst ez
    have x23 := x2.trans x3
    have h3 := x23 a _ h nb
    have rk3 := v1.rqk x23 rk
    have ek' : y = kV kk := Rq.key (Z := Z) r2 ek
    refine ⟨valV kvs kk, by rw [ek']; exact DGet.k h3, l _ H3 _ (x1.trans x23) g3 ?_ q3⟩
    rcases rk3.get (k := kk) with ⟨e1, e2⟩ | ⟨u, d', e1, e2, ru⟩
    · rw [e1, e2]; exact r3
    · rw [e1, e2]; exact ru, me⟩
theorem ve_dget1 (hu : X.A.units + 1 < cLine) (ho : VX X b W o td) (he : VE X b W e ty) (m : M1 X o "get" apos e cpos) : VE X b W (.Call (.Attribute o "get" apos) [e] [] cpos) (vDGet1 td ty) :=
  pe_mono (pe_dget1 hu ho he m) fun σ H Q ⟨Zo, Z, ρ, Qd, Ed, v, q, l, me⟩ => ⟨Zo, Z, ρ, _, Ed, v, q, fun x H1 d x1 g1 r1 ⟨ds, ed, q1⟩ => by
    subst ed
    have v1 := v.ex x1 g1
    obtain ⟨a, kvs, rfl, h, nb, rk⟩ := v1.rdict r1
    refine ⟨a, rfl, .inl ⟨kvs, .inl h⟩, Zo, Z, ρ, _, Ed, v1, q1, fun y H2 dy x2 g2 r2 ⟨k, kk, ey, ek, q2⟩ => ?_, fun c y H2 er x2 g2 r2 q2 => me c y H2 er (x1.trans x2) g2 r2 q2⟩
    subst ey
    have h3 := x2 a _ h nb
    have rk3 := v1.rqk x2 rk
    have ek' : y = kV kk := Rq.key (Z := Z) r2 ek
    refine ⟨valV kvs kk, by rw [ek']; exact DGet.k h3, l _ H2 _ (x1.trans x2) g2 ?_ q2⟩
    rcases rk3.get (k := kk) with ⟨e1, e2⟩ | ⟨u, d', e1, e2, ru⟩
    · rw [e1, e2]; exact (Rq.non : Rq Z H2 .non .none)
    · rw [e1, e2]; exact ru, me⟩
theorem ve_dix (hu : X.A.units + 1 < cLine) (ho : VX X b W o td) (he : VE X b W e ty) (hs : NoSl e := by exact fun _ _ => rfl) : VE X b W (.Subscript o e pos) (vDIx td ty) :=
  pe_mono (pe_dget hu ho he hs) fun σ H Q ⟨Zo, Z, ρ, Qd, Ed, v, q, l, me⟩ => ⟨Zo, Z, ρ, _, Ed, v, q, fun x H1 d x1 g1 r1 ⟨ds, ed, q1⟩ => by
    subst ed
    have v1 := v.ex x1 g1
    obtain ⟨a, kvs, rfl, h, nb, rk⟩ := v1.rdict r1
    refine ⟨Zo, Z, ρ, _, Ed, v1, q1, fun y H2 dy x2 g2 r2 ⟨k, kk, w, ey, ek, ew, q2⟩ => ?_, fun c y H2 er x2 g2 r2 q2 => me c y H2 er (x1.trans x2) g2 r2 q2⟩
    subst ey
    have h3 := x2 a _ h nb
    have rk3 := v1.rqk x2 rk
    have ek' : y = kV kk := Rq.key (Z := Z) r2 ek
    rcases rk3.get (k := kk) with ⟨e1, e2⟩ | ⟨u, d', e1, e2, ru⟩
    · rw [ew] at e2; cases e2
    · rw [ew] at e2; cases e2
      exact ⟨a, u, rfl, by rw [ek', ← e1]; exact DGet.k h3, l _ H2 (.py w) (x1.trans x2) g2 ru q2⟩, me⟩
/-- d[k] = x for an owned dict -/
@[simp] def sDPutO (i : Nat) (ty tv : VT) : VS := fun ρ De => ∃ ds, ρ[i]? = some (.own (.py (.dict ds))) ∧ tv ρ (fun x => ∃ p, x = .py p ∧ ty ρ (fun y => ∃ k kk, y = .py k ∧ keyOf k = some kk ∧ ds.length < sizeLine ∧ De.nx (ρ.set i (.own (.py (.dict (putD ds kk p)))))) (De.ex ρ)) (De.ex ρ)
theorem vs_dputO {tv : VT} {value : Expr} (hu : X.A.units + 1 < cLine) (ho : PE X o (tVar i)) (he : VE X b W e ty) (hv : VE X b W value tv) (hs : swapsWith value (some (.Subscript o e pos')) pos.line X.env = pure false := by rfl) :
    VSt X b W (.Assign [.Subscript o e pos'] value pos) (sDPutO i ty tv) :=
  ps_mono (ps_dput hu ho he hv hs) fun Dn σ H ⟨H0, M, Zo, Z, ρ, De, f, ⟨ds, e1, q⟩, l⟩ => by
    refine ⟨Zo, Z, ρ, _, _, f.v, q, fun v H1 dv x1 g1 r1 ⟨p, ep, q1⟩ => ?_, l.er f⟩
    subst ep
    have f1 := f.ex x1 g1
    obtain ⟨a, h1, h2, h3, kvs, h4, h5⟩ := f1.v.own i _ e1
    have nb : ¬ b.B a := fun z => h3 (f1.v.zb a z)
    refine ⟨.ref a, h1, Zo, Z, ρ, _, _, f1.v, q1, fun y H2 dy x2 g2 r2 ⟨k, kk, ey, ek, hl, q2⟩ => ?_, l.er f1⟩
    subst ey
    have f2 := f1.ex x2 g2
    have ek' : y = kV kk := Rq.key (Z := Z) r2 ek
    have h4' := x2 a _ h4 nb
    have h5' := f1.v.rqk x2 h5
    refine ⟨a, _, rfl, by rw [ek']; exact DPut.k h4' (by rw [h5.length]; exact hl), l.nx _ _ _ _ (f2.mut (d' := .py (.dict (putD ds kk p))) e1 h1 ⟨_, upd_same, ?_⟩) q2⟩
    exact (h5'.put (f1.v.rq x2 r1)).mono (fun c z => .inl z) fun c u e n => by
      rw [upd_ne (fun w => n (by rw [w]; exact h2))]
      exact e
end
end VL
set_option Elab.async false
set_option linter.all false
set_option maxRecDepth 100000
set_option maxHeartbeats 4000000
namespace VL
open PySem PySem.Spec PyProof.Rows L2 HT
/-- a constant of the module that is a text -/
theorem ve_gstr {X : Cx} {b : Bg} {W : WX} {pos : Pos} {x : Str} {i : Str} (hg : Gl X x) (hm : ∃ t, X.mg x = some (.str i t)) (hd : (x == ("__debug__" : Str)) = false := by decide) : VE X b W (.Name x pos) (vC (.py (.str i))) := by
  obtain ⟨t, h⟩ := hm
  exact ve_glob (v := .str i) hg h ⟨t, rfl⟩ (fun _ _ => .str i) hd
end VL
set_option Elab.async false
set_option linter.all false
set_option maxRecDepth 100000
set_option maxHeartbeats 4000000
namespace VL
open PySem PySem.Spec PyProof.Rows L2 HT
/-! ### typed data -/
abbrev pI : Int → PyData := PyData.int
def pN (n : Nat) : PyData := .int (n : Int)
def oN : Option Nat → PyData
  | none => .none
  | some n => .int (n : Int)
@[simp] def tI (gs : List Int) : PyData := .tuple (gs.map PyData.int)
@[simp] def tN (ns : List Nat) : PyData := .tuple (ns.map pN)
theorem map_inj {α β : Type} {f : α → β} (h : ∀ a b, f a = f b → a = b) : ∀ {xs ys : List α}, xs.map f = ys.map f ↔ xs = ys
  | [], [] => ⟨fun _ => rfl, fun _ => rfl⟩
  | [], _ :: _ => by simp
  | _ :: _, [] => by simp
  | x :: xs, y :: ys => by
    rw [List.map_cons, List.map_cons, List.cons.injEq, List.cons.injEq, map_inj h]
    exact ⟨fun ⟨a, b⟩ => ⟨h _ _ a, b⟩, fun ⟨a, b⟩ => ⟨by rw [a], b⟩⟩
theorem pN_inj (a b : Nat) (e : pN a = pN b) : a = b := by unfold pN at e; injection e with e; omega
@[simp] theorem pN_eq {a b : Nat} : pN a = pN b ↔ a = b := ⟨pN_inj a b, fun e => by rw [e]⟩
@[simp] theorem mapI_inj {xs ys : List Int} : xs.map PyData.int = ys.map PyData.int ↔ xs = ys := map_inj fun a b e => by injection e
@[simp] theorem mapN_inj {xs ys : List Nat} : xs.map pN = ys.map pN ↔ xs = ys := map_inj pN_inj
theorem tI_inj {xs ys : List Int} : tI xs = tI ys ↔ xs = ys := ⟨fun e => by unfold tI at e; injection e with e; exact mapI_inj.mp e, fun e => by rw [e]⟩
theorem tN_inj {xs ys : List Nat} : tN xs = tN ys ↔ xs = ys := ⟨fun e => by unfold tN at e; injection e with e; exact mapN_inj.mp e, fun e => by rw [e]⟩
@[simp] theorem oN_inj {a b : Option Nat} : oN a = oN b ↔ a = b := by
  cases a <;> cases b <;> simp [oN]
  omega
theorem atI_map {α β : Type} {f : α → β} {xs : List α} {k : Nat} {x : α} (h : xs[k]? = some x) : atI (xs.map f) (k : Int) = some (f x) := atI_nat (by rw [List.getElem?_map, h]; rfl)
theorem enumP_len (xs : List PyData) : (enumP xs).length = xs.length := by simp [enumP]
theorem enumP_getD {α : Type} {f : α → PyData} {xs : List α} {k : Nat} {d : PyData} (h : (enumP (xs.map f))[k]? = some d) : ∃ x, xs[k]? = some x ∧ d = .tuple [.int (k : Nat), f x] := by
  obtain ⟨x, h1, h2⟩ := enumP_get h
  rw [List.getElem?_map] at h1
  cases e : xs[k]? with
  | none => rw [e] at h1; cases h1
  | some y => rw [e] at h1; cases h1; exact ⟨y, rfl, h2⟩
theorem take_succ_get {α : Type} {xs : List α} {k : Nat} {x : α} (h : xs[k]? = some x) : xs.take (k + 1) = xs.take k ++ [x] := by
  rw [List.take_add_one, h]; rfl
end VL
namespace VL
open PySem PySem.Spec PyProof.Rows L2 HT
theorem putD_len (ds : List (PyData × PyData)) (k : Key) (x : PyData) : (putD ds k x).length ≤ ds.length + 1 := by
  unfold putD
  split
  · simp
  · simp
theorem getD_putD (ds : List (PyData × PyData)) (k j : Key) (x : PyData) : getD (putD ds k x) j = if j = k then some x else getD ds j := by
  unfold putD
  split
  · rename_i h
    have e : ∀ l : List (PyData × PyData), getD (l.map fun p => if keyOf p.1 = some k then (p.1, x) else p) j = if j = k then (if (l.any fun p => decide (keyOf p.1 = some k)) = true then some x else none) else getD l j := by
      intro l
      induction l with
      | nil => simp [getD]
      | cons p l ih =>
        unfold getD at ih ⊢
        rw [List.map_cons, List.any_cons, List.find?_cons]
        by_cases c : keyOf p.1 = some k
        · by_cases d : j = k
          · subst d; simp [c]
          · have d' : ¬ (some k = some j) := fun z => d (by cases z; rfl)
            have d'' : ¬ (k = j) := fun z => d z.symm
            simp [c, d, d', d''] at ih ⊢
            simpa [c, d, d', d''] using ih
        · by_cases d : keyOf p.1 = some j
          · have d' : ¬ j = k := fun z => c (by rw [d, z])
            simp [c, d, d']
          · have c' : decide (keyOf p.1 = some k) = false := decide_eq_false c
            have d' : decide (keyOf p.1 = some j) = false := decide_eq_false d
            rw [if_neg c, d', List.find?_cons, c', Bool.false_or]
            simp only [d']
            exact ih
    rw [e, h]; simp
  · rename_i h
    unfold getD
    rw [List.find?_append]
    by_cases d : j = k
    · subst d
      have hn : ds.find? (fun p => decide (keyOf p.1 = some j)) = none := by
        rw [List.find?_eq_none]
        intro p hp hc
        exact h (List.any_eq_true.mpr ⟨p, hp, hc⟩)
      simp [hn, -kD]
    · have d' : ¬ (k = j) := fun z => d z.symm
      simp [d, d', -kD]
@[simp] theorem getD_nil (k : Key) : getD [] k = none := rfl
end VL
set_option Elab.async false
set_option linter.all false
set_option maxRecDepth 100000
set_option maxHeartbeats 4000000
namespace VL
open PySem PySem.Spec PyProof.Rows L2
/-! ### data that is shown in few signs -/
structure Sw (w d : Nat) (p : PyData) : Prop where
  sh : p.showable = true
  ls : p.leavesShort 60 = true
  wt : p.weight ≤ w
  dp : p.depth ≤ d
theorem Sw.mono {w d w' d' : Nat} {p : PyData} (h : Sw w d p) (hw : w ≤ w') (hd : d ≤ d') : Sw w' d' p := ⟨h.sh, h.ls, Nat.le_trans h.wt hw, Nat.le_trans h.dp hd⟩
theorem Sw.len {w d : Nat} {p : PyData} (h : Sw w d p) : p.shown.length ≤ 62 * w + 60 := by
  have := PyData.shown_le 60 (by omega) p h.ls
  have := h.wt
  omega
theorem Sw.repr {w d : Nat} {p : PyData} (h : Sw w d p) (hw : w ≤ 260000 := by decide) (hd : d ≤ 40 := by decide) : ReprOk p := ⟨h.sh, by have := h.len; rw [szl]; omega, Nat.le_trans h.dp hd⟩
theorem Sw.all {w d : Nat} : ∀ {ps : List PyData}, (∀ p ∈ ps, Sw w d p) → PyData.showableAll ps = true ∧ PyData.leavesShortAll 60 ps = true ∧ PyData.weightAll ps ≤ (w + 1) * ps.length ∧ PyData.depthAll ps ≤ d
  | [], _ => ⟨rfl, rfl, Nat.zero_le _, Nat.zero_le _⟩
  | p :: ps, h => by
    have hp := h p List.mem_cons_self
    obtain ⟨a, b, c, e⟩ := Sw.all (ps := ps) fun q hq => h q (List.mem_cons_of_mem _ hq)
    refine ⟨by simp only [PyData.showableAll, hp.sh, a, Bool.and_self], by simp only [PyData.leavesShortAll, hp.ls, b, Bool.and_self], ?_, ?_⟩
    · have := hp.wt
      rw [List.length_cons, Nat.mul_add]
      simp only [PyData.weightAll]
      omega
    · have := hp.dp
      simp only [PyData.depthAll]
      omega
theorem Sw.tup {w d n : Nat} {ps : List PyData} (h : ∀ p ∈ ps, Sw w d p) (hn : ps.length ≤ n) : Sw ((w + 1) * n) (d + 1) (.tuple ps) := by
  obtain ⟨a, b, c, e⟩ := Sw.all h
  have m : (w + 1) * ps.length ≤ (w + 1) * n := Nat.mul_le_mul_left _ hn
  exact ⟨by simpa only [PyData.showable] using a, by simpa only [PyData.leavesShort] using b, by simp only [PyData.weight]; omega, by simp only [PyData.depth]; omega⟩
theorem Sw.lst {w d n : Nat} {ps : List PyData} (h : ∀ p ∈ ps, Sw w d p) (hn : ps.length ≤ n) : Sw ((w + 1) * n) (d + 1) (.list ps) := by
  obtain ⟨a, b, c, e⟩ := Sw.all h
  have m : (w + 1) * ps.length ≤ (w + 1) * n := Nat.mul_le_mul_left _ hn
  exact ⟨by simpa only [PyData.showable] using a, by simpa only [PyData.leavesShort] using b, by simp only [PyData.weight]; omega, by simp only [PyData.depth]; omega⟩
theorem Sw.int {i : Int} (h : i.natAbs < 10 ^ 12) : Sw 40 2 (.int i) := by
  have l : i.natAbs.log2 < 40 := by
    by_cases z : i.natAbs = 0
    · rw [z]; decide
    · exact (Nat.log2_lt z).mpr (by omega)
  refine ⟨by simp only [PyData.showable, decide_eq_true_eq]; omega, ?_, ?_, by simp only [PyData.depth]; omega⟩
  · have := PyData.shown_int_le h
    simp only [PyData.leavesShort, decide_eq_true_eq]
    omega
  · simp only [PyData.weight]
    split <;> omega
instance (w d : Nat) (p : PyData) : Decidable (Sw w d p) := decidable_of_iff (p.showable = true ∧ p.leavesShort 60 = true ∧ p.weight ≤ w ∧ p.depth ≤ d) ⟨fun ⟨a, b, c, e⟩ => ⟨a, b, c, e⟩, fun ⟨a, b, c, e⟩ => ⟨a, b, c, e⟩⟩
theorem sw_ofString {s : String} {n : Nat} (h : s.length ≤ n) : Sw n 0 (.str (Str.ofString s)) := by
  refine ⟨by simp only [PyData.showable], ?_, ?_, by simp only [PyData.depth]; omega⟩
  · simp only [PyData.leavesShort]
    rw [signs_ofString, List.all_eq_true]
    intro c hc
    obtain ⟨d, _, rfl⟩ := List.mem_map.mp hc
    have : d.toNat < 2 ^ 32 := UInt32.toNat_lt d.val
    exact decide_eq_true (by omega)
  · have e := PySem.ofString_length s
    simp only [PyData.weight]
    unfold Str.length at e
    omega
theorem Sw.tI {n : Nat} {gs : List Int} (h : ∀ g ∈ gs, g.natAbs < 10 ^ 12) (hn : gs.length ≤ n) : Sw (41 * n) 3 (tI gs) := Sw.tup (w := 40) (d := 2) (fun p hp => by
  obtain ⟨g, hg, rfl⟩ := List.mem_map.mp hp
  exact Sw.int (h g hg)) (by rw [List.length_map]; exact hn)
theorem Sw.pN {n : Nat} (h : n < 10 ^ 12) : Sw 40 2 (pN n) := Sw.int (by omega)
theorem Sw.none : Sw 40 2 .none := by decide +kernel
theorem Sw.bool (k : Bool) : Sw 40 2 (.bool k) := by cases k <;> decide +kernel
theorem Sw.oN {o : Option Nat} (h : ∀ n, o = some n → n < 10 ^ 12) : Sw 40 2 (oN o) := by
  cases o with
  | none => exact Sw.none
  | some n => exact Sw.int (by have := h n rfl; omega)
theorem Sw.map {α : Type} {f : α → PyData} {xs : List α} {w d n : Nat} (h : ∀ x ∈ xs, Sw w d (f x)) (hn : xs.length ≤ n) : Sw ((w + 1) * n) (d + 1) (.tuple (xs.map f)) ∧ Sw ((w + 1) * n) (d + 1) (.list (xs.map f)) := by
  have : ∀ p ∈ xs.map f, Sw w d p := fun p hp => by
    obtain ⟨x, hx, rfl⟩ := List.mem_map.mp hp
    exact h x hx
  exact ⟨Sw.tup this (by rw [List.length_map]; exact hn), Sw.lst this (by rw [List.length_map]; exact hn)⟩
theorem Sw.l2 {w d : Nat} {p q : PyData} (h : Sw w d p) (k : Sw w d q) : Sw ((w + 1) * 2) (d + 1) (.list [p, q]) := Sw.lst (fun x hx => by
  simp at hx
  rcases hx with rfl | rfl
  · exact h
  · exact k) (by simp)
theorem Sw.t2 {w d : Nat} {p q : PyData} (h : Sw w d p) (k : Sw w d q) : Sw ((w + 1) * 2) (d + 1) (.tuple [p, q]) := Sw.tup (fun x hx => by
  simp at hx
  rcases hx with rfl | rfl
  · exact h
  · exact k) (by simp)
theorem Sw.t3 {w d : Nat} {p q r : PyData} (h : Sw w d p) (k : Sw w d q) (j : Sw w d r) : Sw ((w + 1) * 3) (d + 1) (.tuple [p, q, r]) := Sw.tup (fun x hx => by
  simp at hx
  rcases hx with rfl | rfl | rfl
  · exact h
  · exact k
  · exact j) (by simp)
end VL
set_option Elab.async false
set_option linter.all false
set_option maxRecDepth 100000
set_option maxHeartbeats 4000000
namespace VL
open PySem PySem.Spec PyProof.Rows L2 HT
/-! ### comprehensions and loops over encoded lists -/
section
variable {g : VTg} {tt : VB} {te : VT} {ρ : VEnv} {Q : D → Prop} {α : Type}
theorem lc_enc (enc : α → PyData) (f : α → Option PyData) : ∀ {L : List α} {acc : List PyData}, (∀ (i : Nat) (x : α), L[i]? = some x → ∀ k, k (f x) → lcStep g tt te (.py (enc x)) ρ k) → acc.length + L.length < 16777216 → Q (.py (.list (acc ++ L.filterMap f))) → lcGo g tt te Q ((L.map enc).map D.py) acc ρ
  | [], acc, _, _, q => by simpa using q
  | x :: xs, acc, h, hl, q => by
    refine lcGo_cons (h 0 x rfl _ ?_)
    have hr : ∀ (i : Nat) (y : α), xs[i]? = some y → ∀ k, k (f y) → lcStep g tt te (.py (enc y)) ρ k := fun i y hy => h (i + 1) y (by simpa using hy)
    rw [List.length_cons] at hl
    rw [List.filterMap_cons] at q
    cases e : f x with
    | none => rw [e] at q; exact lc_enc enc f hr (by omega) q
    | some p =>
      rw [e] at q
      refine ⟨by rw [szl]; omega, lc_enc enc f hr (by rw [List.length_append, List.length_singleton]; omega) ?_⟩
      rw [List.append_assoc]
      exact q
theorem filterMap_if (p : α → Bool) (e : α → PyData) : ∀ L : List α, L.filterMap (fun x => if p x = true then some (e x) else none) = (L.filter p).map e
  | [] => rfl
  | x :: xs => by
    rw [List.filterMap_cons, filterMap_if p e xs, List.filter_cons]
    cases p x <;> simp
theorem lc_encF (enc : α → PyData) (p : α → Bool) (e : α → PyData) {L : List α} (h : ∀ (i : Nat) (x : α), L[i]? = some x → ∀ k, (p x = true → k (some (e x))) → (p x = false → k none) → lcStep g tt te (.py (enc x)) ρ k)
    (hl : L.length < 16777216) (q : Q (.py (.list ((L.filter p).map e)))) : lcGo g tt te Q ((L.map enc).map D.py) [] ρ := by
  refine lc_enc enc (fun x => if p x = true then some (e x) else none) (fun i x hx k hk => h i x hx k (fun c => by simpa [c] using hk) (fun c => by simpa [c] using hk)) (by simpa using hl) ?_
  rw [filterMap_if, List.nil_append]
  exact q
theorem lc_encM (enc : α → PyData) (e : α → PyData) {L : List α} (h : ∀ (i : Nat) (x : α), L[i]? = some x → ∀ k, k (some (e x)) → lcStep g tt te (.py (enc x)) ρ k)
    (hl : L.length < 16777216) (q : Q (.py (.list (L.map e)))) : lcGo g tt te Q ((L.map enc).map D.py) [] ρ := by
  refine lc_enc enc (fun x => some (e x)) h (by simpa using hl) ?_
  rw [List.nil_append, List.filterMap_eq_map']
  exact q
/-- .. each item with R -/
theorem lc_encR (enc : α → PyData) {β : Type} (e : β → PyData) (R : α → β → Prop) : ∀ {L : List α} {acc : List PyData}, (∀ (i : Nat) (x : α), L[i]? = some x → ∀ k, (∀ y, R x y → k (some (e y))) → lcStep g tt te (.py (enc x)) ρ k)
    → acc.length + L.length < 16777216 → (∀ ys : List β, ys.length = L.length → (∀ (i : Nat) (x : α) (y : β), L[i]? = some x → ys[i]? = some y → R x y) → Q (.py (.list (acc ++ ys.map e)))) → lcGo g tt te Q ((L.map enc).map D.py) acc ρ
  | [], acc, _, _, q => by simpa using q [] rfl (fun i x y h => by simp at h)
  | x :: xs, acc, h, hl, q => by
    refine lcGo_cons (h 0 x rfl _ fun y hy => ?_)
    rw [List.length_cons] at hl
    refine ⟨by rw [szl]; omega, lc_encR enc e R (fun i z hz => h (i + 1) z (by simpa using hz)) (by rw [List.length_append, List.length_singleton]; omega) fun ys hl hr => ?_⟩
    rw [List.append_assoc]
    refine q (y :: ys) (by simp [hl]) fun i a b ha hb => ?_
    cases i with
    | zero => simp at ha hb; subst ha hb; exact hy
    | succ i => exact hr i a b (by simpa using ha) (by simpa using hb)
end
section
variable {g : VTg} {tb : VS} {De : VEnds} {α : Type}
theorem for_enc (enc : α → PyData) (Iv : Nat → VEnv → Prop) {L : List α} {ρ : VEnv} (h0 : Iv 0 ρ) (h : ∀ i x ρ, L[i]? = some x → Iv i ρ → ∀ nx ct : VEnv → Prop, (∀ ρ', Iv (i + 1) ρ' → nx ρ' ∧ ct ρ') → g (.py (enc x)) ρ fun ρ1 => tb ρ1 ⟨nx, De.rt, De.nx, ct, De.ex⟩) (hd : ∀ ρ, Iv L.length ρ → De.nx ρ) :
    forGo g tb ((L.map enc).map D.py) ρ De := by
  refine for_inv Iv (fun i x ρ hx iv nx ct hn => ?_) (fun ρ iv => hd ρ (by simpa using iv)) h0
  rw [List.getElem?_map] at hx
  cases e : L[i]? with
  | none => rw [e] at hx; cases hx
  | some y => rw [e] at hx; cases hx; exact h i y ρ e iv nx ct hn
end
def encR (lo : Int) (k : Nat) : PyData := .int (lo + (k : Nat))
theorem rangeP_eq (lo : Int) (n : Nat) : rangeP lo n = (List.range n).map (encR lo) := rfl
@[simp] theorem encR0 (k : Nat) : encR 0 k = .int (k : Int) := by unfold encR; rw [Int.zero_add]
theorem encR_eq (lo : Int) (k : Nat) : encR lo k = .int (lo + (k : Nat)) := rfl
def encE {α : Type} (enc : α → PyData) (p : α × Nat) : PyData := .tuple [.int (p.2 : Nat), enc p.1]
@[simp] theorem encE_eq {α : Type} (enc : α → PyData) (x : α) (n : Nat) : encE enc (x, n) = .tuple [.int (n : Nat), enc x] := rfl
theorem enumP_enc {α : Type} (enc : α → PyData) (L : List α) : enumP (L.map enc) = L.zipIdx.map (encE enc) := by
  unfold enumP encE
  rw [List.zipIdx_map, List.map_map]
  rfl
theorem zipIdx_at {α : Type} {L : List α} {i : Nat} {p : α × Nat} (h : L.zipIdx[i]? = some p) : ∃ x, L[i]? = some x ∧ p = (x, i) := by
  rw [List.getElem?_zipIdx] at h
  cases e : L[i]? with
  | none => rw [e] at h; cases h
  | some x => rw [e] at h; cases h; exact ⟨x, rfl, by simp⟩
theorem range_get {n i x : Nat} (h : (List.range n)[i]? = some x) : x = i ∧ i < n := by
  have hi : i < n := by have := (List.getElem?_eq_some_iff.mp h).1; simpa using this
  rw [List.getElem?_range hi] at h
  cases h
  exact ⟨rfl, hi⟩
end VL
set_option Elab.async false
set_option linter.all false
set_option maxRecDepth 100000
set_option maxHeartbeats 4000000
namespace VL
open PySem PySem.Spec PyProof.Rows L2 HT
/-! ### methods of values -/
def TyIs (X : Cx) (T : String) (x : V) (H : Hp) : Prop := ∀ (pins : List (Addr × Obj)) (σ : L2.St) (s : Shared) (v : Value), Inv X pins σ H s → RelV x v → s.TypeIs v T ∧ ∀ a, v = .ref a → ∃ ob, s.heap.get? a = some ob ∧ ob.dict = none
def AltOk (X : Cx) (name : Str) (x : V) (H : Hp) (r : V → List V → Hp → VK → Prop) : Prop := ∃ T id, PlainAttrs T ∧ PySem.Slot T name id ∧ typeOf (.builtin id) = pure (.type "method_descriptor") ∧ MtR X id r ∧ TyIs X T x H
def tBMx (X : Cx) (name : Str) (to : TE) (t : TA) : TE := fun σ H Q => to σ H fun x H1 => ∃ r, AltOk X name x H1 r ∧ t σ H1 fun xs H2 => r x xs H2 Q
theorem pe_bmx {X : Cx} {o e : Expr} {es : List Expr} {to : TE} {t : TA} {name : Str} {apos cpos : Pos} (ho : PE X o to) (ha : PA X (e :: es) t)
    (hbase : attributeBase o name X.env (eval o X.env) = eval o X.env := by rfl)
    (hfew : ((backTo cpos (starEach (e :: es) X.env)).all (fun x => !x.1) && (backToKw cpos (keywordEach [] X.env)).all (fun x => x.1.isSome)
      && decide ((e :: es).length + ([] : List Keyword).length + (if ([] : List Keyword).isEmpty then 0 else 1) < 30)) = true := by rfl)
    (hline : (apos.endLine == cpos.line) = true := by rfl) (hs : starEach (e :: es) X.env = (false, eval e X.env) :: starEach es X.env := by rfl) (hplain : (backTo cpos (starEach es X.env)).any (·.1) = false := by rfl) :
    PE X (.Call (.Attribute o name apos) (e :: es) [] cpos) (tBMx X name to t) := by
  refine ⟨fun pins s σ H Q I h => ?_⟩
  refine wpAny_Call_method_late hbase hfew hline rfl (thn (ho.run pins s σ H _ I h) fun v s1 ⟨x, H1, I1, r1, r, ⟨T, id, pa, slot, hty, hm, ty⟩, q1⟩ => ?_)
  obtain ⟨h1, h2⟩ := ty pins σ s1 v I1 r1
  refine ⟨T, id, pa, slot, hty, h1, h2, ?_⟩
  have hA := ha.run cpos pins s1 σ H1 _ I1 q1
  rw [hs] at hA ⊢
  refine Calls.callWith_builtin (by show (false || (backTo cpos (starEach es X.env)).any (·.1)) = false; rw [hplain] <;> rfl) (Calls.evalArgs_plain ?_)
  exact thn hA fun us s2 ⟨vs, H2, I2, r2, q2⟩ => hm pins s2 σ H2 x vs v us Q I2 r1 r2 q2
def tBMx0 (X : Cx) (name : Str) (to : TE) : TE := fun σ H Q => to σ H fun x H1 => ∃ r, AltOk X name x H1 r ∧ r x [] H1 Q
theorem pe_bmx0 {X : Cx} {o : Expr} {to : TE} {name : Str} {apos cpos : Pos} (ho : PE X o to)
    (hbase : attributeBase o name X.env (eval o X.env) = eval o X.env := by rfl) (hline : (apos.endLine == cpos.line) = true := by rfl) : PE X (.Call (.Attribute o name apos) [] [] cpos) (tBMx0 X name to) := by
  refine ⟨fun pins s σ H Q I h => ?_⟩
  refine wpAny_Call_method0_late hbase hline (thn (ho.run pins s σ H _ I h) fun v s1 ⟨x, H1, I1, r1, r, ⟨T, id, pa, slot, hty, hm, ty⟩, q1⟩ => ?_)
  obtain ⟨h1, h2⟩ := ty pins σ s1 v I1 r1
  exact ⟨T, id, pa, slot, hty, h1, h2, Calls.callWith_builtin rfl (PySem.evalArgs_none (hm pins s1 σ H1 x [] v [] Q I1 r1 .nil q1))⟩
section
variable {X : Cx} {H : Hp}
theorem ty_str (z : Str) : TyIs X "str" (.str z) H := fun pins σ s v I r => by
  obtain ⟨t, rfl⟩ := r
  exact ⟨typeIs_str s z t, fun _ e => nomatch e⟩
theorem ty_lst {a : Addr} {xs : List V} (e : H a = some (.lst xs)) : TyIs X "list" (.ref a) H := fun pins σ s v I r => by
  cases r
  obtain ⟨its, _, pl, _⟩ := I.list (SqL.of e)
  refine ⟨pl.isList.typeIs, fun a e => ?_⟩
  cases e
  obtain ⟨o, n, e, c, hd, _⟩ := pl
  exact ⟨o, e, hd⟩
theorem ty_tup {a : Addr} {o : Obj} {xs : List V} (e : H a = some (HO.th o xs)) (hd : o.dict = none) : TyIs X "tuple" (.ref a) H := fun pins σ s v I r => by
  cases r
  obtain ⟨h1, _, its, _, ho⟩ := I.hok a _ e
  obtain ⟨o', e', hc, _⟩ := ho
  refine ⟨⟨o', e', hc⟩, fun b eb => ?_⟩
  cases eb
  exact ⟨o, h1, hd⟩
end
/-- a method over values: k says for which receivers it is there -/
def MetX (X : Cx) (b : Bg) (R : (Addr → Prop) → Hp → Hp → V → D → Prop) (name : Str) (k : D → Prop) (g : D → List D → (D → Prop) → Prop) : Prop :=
  ∀ (Z : Addr → Prop) (H : Hp) (x : V) (d : D), Gd b Z H → Rb b Z H x d → k d → ∃ r, AltOk X name x H r ∧ ∀ (H' : Hp) (xs : List V) (ds : List D) (Q : VK) (Qd : D → Prop), Ex b H H' → Gd b Z H' → Rb b Z H' x d → Rbs b Z H' xs ds → g d ds Qd →
    (∀ v H2 e, Ex b H' H2 → b.G H2 → R Z H' H2 v e → Qd e → Q v H2) → r x xs H' Q
@[simp] def vMth (k : D → Prop) (g : D → List D → (D → Prop) → Prop) (to : VT) (ta : VA) : VT := fun ρ Q E => to ρ (fun d => k d ∧ ta ρ (fun ds => g d ds Q) E) E
section
variable {X : Cx} {b : Bg} {W : WX} {o e : Expr} {es : List Expr} {to : VT} {ta : VA} {name : Str} {apos cpos : Pos} {k : D → Prop} {g : D → List D → (D → Prop) → Prop}
theorem coreM {R : (Addr → Prop) → Hp → Hp → V → D → Prop} (hR : ∀ Z H H1 H2 v d, b.G H1 → Ex b H H1 → R Z H1 H2 v d → R Z H H2 v d) (hd : MetX X b R name k g) :
    ∀ σ H Q, LE b W R (vMth k g to ta) σ H Q → tBMx X name (LE b W (fun Z _ H v d => Rb b Z H v d) to) (LAX b W ta) σ H Q :=
  fun σ H Q ⟨Zo, Z, ρ, Qd, Ed, v, q, l, m⟩ => ⟨Zo, Z, ρ, _, Ed, v, q, fun x H1 d x1 g1 r1 ⟨kd, q1⟩ => by
    have v1 := v.ex x1 g1
    obtain ⟨r, al, rr⟩ := hd Z H1 x d v1.gd r1 kd
    exact ⟨r, al, Zo, Z, ρ, _, Ed, v1, q1, fun xs H2 ds x2 g2 r2 q2 => rr H2 xs ds Q Qd x2 (v1.ex x2 g2).gd (r1.ex (v1.keep x2) x2) r2 q2 fun u H3 d3 x3 g3 r3 q3 => l u H3 d3 ((x1.trans x2).trans x3) g3 (hR _ _ _ _ _ _ g2 (x1.trans x2) r3) q3,
      fun c z H2 er x2 g2 r2 q2 => m c z H2 er (x1.trans x2) g2 r2 q2⟩, m⟩
theorem coreM0 {R : (Addr → Prop) → Hp → Hp → V → D → Prop} (hR : ∀ Z H H1 H2 v d, b.G H1 → Ex b H H1 → R Z H1 H2 v d → R Z H H2 v d) (hd : MetX X b R name k g) :
    ∀ σ H Q, LE b W R (vMth k g to vNil) σ H Q → tBMx0 X name (LE b W (fun Z _ H v d => Rb b Z H v d) to) σ H Q :=
  fun σ H Q ⟨Zo, Z, ρ, Qd, Ed, v, q, l, m⟩ => ⟨Zo, Z, ρ, _, Ed, v, q, fun x H1 d x1 g1 r1 ⟨kd, q1⟩ => by
    have v1 := v.ex x1 g1
    obtain ⟨r, al, rr⟩ := hd Z H1 x d v1.gd r1 kd
    exact ⟨r, al, rr H1 [] [] Q Qd Ex.refl v1.gd r1 .nil q1 fun u H3 d3 x3 g3 r3 q3 => l u H3 d3 (x1.trans x3) g3 (hR _ _ _ _ _ _ g1 x1 r3) q3⟩, m⟩
theorem ve_mth (hd : MetX X b (RE b) name k g) (ho : VX X b W o to) (ha : VXs X b W (e :: es) ta)
    (hbase : attributeBase o name X.env (eval o X.env) = eval o X.env := by rfl)
    (hfew : ((backTo cpos (starEach (e :: es) X.env)).all (fun x => !x.1) && (backToKw cpos (keywordEach [] X.env)).all (fun x => x.1.isSome)
      && decide ((e :: es).length + ([] : List Keyword).length + (if ([] : List Keyword).isEmpty then 0 else 1) < 30)) = true := by rfl)
    (hline : (apos.endLine == cpos.line) = true := by rfl) (hs : starEach (e :: es) X.env = (false, eval e X.env) :: starEach es X.env := by rfl) (hplain : (backTo cpos (starEach es X.env)).any (·.1) = false := by rfl) :
    VE X b W (.Call (.Attribute o name apos) (e :: es) [] cpos) (vMth k g to ta) := pe_mono (pe_bmx ho ha hbase hfew hline hs hplain) (coreM hRE hd)
theorem vn_mth (hd : MetX X b (RN b) name k g) (ho : VX X b W o to) (ha : VXs X b W (e :: es) ta)
    (hbase : attributeBase o name X.env (eval o X.env) = eval o X.env := by rfl)
    (hfew : ((backTo cpos (starEach (e :: es) X.env)).all (fun x => !x.1) && (backToKw cpos (keywordEach [] X.env)).all (fun x => x.1.isSome)
      && decide ((e :: es).length + ([] : List Keyword).length + (if ([] : List Keyword).isEmpty then 0 else 1) < 30)) = true := by rfl)
    (hline : (apos.endLine == cpos.line) = true := by rfl) (hs : starEach (e :: es) X.env = (false, eval e X.env) :: starEach es X.env := by rfl) (hplain : (backTo cpos (starEach es X.env)).any (·.1) = false := by rfl) :
    VN X b W (.Call (.Attribute o name apos) (e :: es) [] cpos) (vMth k g to ta) := pe_mono (pe_bmx ho ha hbase hfew hline hs hplain) (coreM hRN hd)
theorem ve_mth0 (hd : MetX X b (RE b) name k g) (ho : VX X b W o to)
    (hbase : attributeBase o name X.env (eval o X.env) = eval o X.env := by rfl) (hline : (apos.endLine == cpos.line) = true := by rfl) :
    VE X b W (.Call (.Attribute o name apos) [] [] cpos) (vMth k g to vNil) := pe_mono (pe_bmx0 ho hbase hline) (coreM0 hRE hd)
end
/-! ### texts -/
@[simp] def isS : D → Prop
  | .py (.str _) => True
  | _ => False
theorem isS_ex : ∀ {d : D}, isS d → ∃ z, d = .py (.str z)
  | .py (.str z), _ => ⟨z, rfl⟩
/-- how often c stands in l: of one sign -/
@[simp] def gTCount : D → List D → (D → Prop) → Prop
  | .py (.str a), [.py (.str b)], Q => Q (.py (.int (Txt.count a b)))
  | _, _, _ => False
theorem mx_count {X : Cx} {b : Bg} : MetX X b (RE b) "count" isS gTCount := fun Z H x d gd rx kd => by
  obtain ⟨z, rfl⟩ := isS_ex kd
  obtain rfl := rx.str
  refine ⟨_, ⟨"str", _, PySem.F.plainAttrs_str, PySem.F.slot_str_count, PySem.F.type_str_count, mt_count, ty_str z⟩, fun H' xs ds Q Qd _ gd' _ rs h k => ?_⟩
  match ds, h, rs with
  | [.py (.str c)], h, .cons r .nil =>
    obtain rfl := r.str
    exact ⟨z, c, rfl, rfl, k _ H' (.py (.int _)) Ex.refl gd'.g (.int _) h⟩
@[simp] def gTJoin : D → List D → (D → Prop) → Prop
  | .py (.str a), [.py (.list xs)], Q => ∃ ys, allS xs = some ys ∧ (ys.map (·.length)).sum + ys.length * a.length ≤ 16777216 ∧ Q (.py (.str (Txt.join a ys)))
  | _, _, _ => False
theorem mx_join {X : Cx} {b : Bg} : MetX X b (RE b) "join" isS gTJoin := fun Z H x d gd rx kd => by
  obtain ⟨z, rfl⟩ := isS_ex kd
  obtain rfl := rx.str
  refine ⟨_, ⟨"str", _, PySem.F.plainAttrs_str, PySem.F.slot_str_join, PySem.F.type_str_join, mt_join, ty_str z⟩, fun H' xs ds Q Qd _ gd' _ rs h k => ?_⟩
  match ds, h, rs with
  | [.py (.list ps)], ⟨ys, e, hl, h⟩, .cons r .nil =>
    obtain ⟨a, us, rfl, ha, qa⟩ := r.list
    rw [allS_of e] at qa
    have eu := qa.strs
    subst eu
    exact ⟨z, a, ys, rfl, rfl, .inl (SqL.of ha), hl, k _ H' (.py (.str _)) Ex.refl gd'.g (.str _) h⟩
@[simp] def gTUpper : D → List D → (D → Prop) → Prop
  | .py (.str a), [], Q => a.length ≤ 5592405 ∧ Q (.py (.str (Txt.upper a)))
  | _, _, _ => False
theorem mx_upper {X : Cx} {b : Bg} : MetX X b (RE b) "upper" isS gTUpper := fun Z H x d gd rx kd => by
  obtain ⟨z, rfl⟩ := isS_ex kd
  obtain rfl := rx.str
  refine ⟨_, ⟨"str", _, PySem.F.plainAttrs_str, PySem.F.slot_str_upper, PySem.F.type_str_upper, mt_upper, ty_str z⟩, fun H' xs ds Q Qd _ gd' _ rs h k => ?_⟩
  match ds, h, rs with
  | [], ⟨hl, h⟩, .nil => exact ⟨z, rfl, rfl, hl, k _ H' (.py (.str _)) Ex.refl gd'.g (.str _) h⟩
@[simp] def gTSplit : D → List D → (D → Prop) → Prop
  | .py (.str a), [.py (.str b)], Q => (b.length == 0) = false ∧ a.length + 2 ≤ 16777216 ∧ Q (.py (.list ((Txt.split a b).map PyData.str)))
  | _, _, _ => False
theorem mx_split {X : Cx} {b : Bg} : MetX X b (RN b) "split" isS gTSplit := fun Z H x d gd rx kd => by
  obtain ⟨z, rfl⟩ := isS_ex kd
  obtain rfl := rx.str
  refine ⟨_, ⟨"str", _, PySem.F.plainAttrs_str, PySem.F.slot_str_split, PySem.F.type_str_split, mt_split, ty_str z⟩, fun H' xs ds Q Qd _ gd' _ rs h k => ?_⟩
  match ds, h, rs with
  | [.py (.str c)], ⟨h1, h2, h⟩, .cons r .nil =>
    obtain rfl := r.str
    exact ⟨z, c, rfl, rfl, h1, by rw [szl]; exact h2, fun p hp => k _ _ (.py (.list _)) (Ex.new hp) (gd'.new hp) ⟨p, rfl, hp, _, upd_same, (Rqs.of_strs _).up' hp⟩ h⟩
end VL
set_option Elab.async false
set_option linter.all false
set_option maxRecDepth 100000
set_option maxHeartbeats 4000000
namespace VL
open PySem PySem.Spec PyProof.Rows L2 HT
/-! ### index by plain data -/
/-- the first place of an equal one -/
def ixOf : List PyData → PyData → Option Nat
  | [], _ => none
  | z :: zs, d => if z.eqv d = true then some 0 else (ixOf zs d).map (· + 1)
theorem ixOf_some : ∀ {ds : List PyData} {d : PyData} {j : Nat}, ixOf ds d = some j → ∃ z, ds[j]? = some z ∧ z.eqv d = true ∧ ∀ (m : Nat) (z' : PyData), m < j → ds[m]? = some z' → z'.eqv d = false
  | [], _, _, h => by cases h
  | z :: zs, d, j, h => by
    unfold ixOf at h
    split at h
    · rename_i c
      cases h
      exact ⟨z, rfl, c, fun m z' hm => by omega⟩
    · rename_i c
      cases e : ixOf zs d with
      | none => rw [e] at h; cases h
      | some i =>
        rw [e] at h
        cases h
        obtain ⟨y, h1, h2, h3⟩ := ixOf_some e
        refine ⟨y, by simpa using h1, h2, fun m z' hm hz => ?_⟩
        have hm' : m < i + 1 := hm
        cases m with
        | zero => simp at hz; subst hz; simpa using c
        | succ m => exact h3 m z' (by omega) (by simpa using hz)
section
variable {X : Cx}
def rIxP (tup : Bool) : V → List V → Hp → VK → Prop := fun x xs H Q => ∃ (a : Addr) (y : V) (d : PyData) (ds : List PyData) (j : Nat), x = .ref a ∧ xs = [y] ∧ Rq nz H (.ref a) (if tup = true then .tuple ds else .list ds) ∧ Rq nz H y d ∧ PyData.plainAll ds = true ∧ d.plain = true ∧
  (d.depth ≤ 60 ∨ PyData.depthAll ds ≤ 60) ∧ ixOf ds d = some j ∧ Q (.int (j : Nat)) H
theorem ix_at {s : Shared} {its : List Value} {ds : List PyData} {as : List Addr} {d : PyData} {j : Nat} (h4 : ReadsAll s.heap its ds as) (hp : PyData.plainAll ds = true) (hj : ixOf ds d = some j) :
    ∃ hjl : j < its.toArray.size, PyData.eqv (SeqAt.readOf s.heap its.toArray[j]) d = true ∧ ∀ m (hm : m < its.toArray.size), m < j → PyData.eqv (SeqAt.readOf s.heap its.toArray[m]) d = false := by
  obtain ⟨z, hz, h1, h2⟩ := ixOf_some hj
  have hn : its.length = ds.length := SeqAt.ReadsAll.length ds its as h4
  have hmap : its.map (SeqAt.readOf s.heap) = ds := SeqAt.readsAll_map_plain ds its as hp h4
  have at_ : ∀ (m : Nat) (hm : m < its.toArray.size) (z' : PyData), ds[m]? = some z' → SeqAt.readOf s.heap its.toArray[m] = z' := by
    intro m hm z' hz'
    have hml : m < its.length := by simpa using hm
    rw [← hmap, List.getElem?_map, List.getElem?_eq_getElem hml] at hz'
    have e1 : SeqAt.readOf s.heap its[m] = z' := Option.some.inj (show some (SeqAt.readOf s.heap its[m]) = some z' from hz')
    simpa using e1
  have hjd : j < ds.length := (List.getElem?_eq_some_iff.mp hz).1
  have hjl : j < its.toArray.size := by simp; omega
  refine ⟨hjl, by rw [at_ j hjl z hz]; exact h1, fun m hm hmj => ?_⟩
  have hz' : ds[m]? = some ds[m] := List.getElem?_eq_getElem (by omega)
  rw [at_ m hm _ hz']
  exact h2 m _ hmj hz'
theorem mt_ixL (hu : X.A.units + 65 < cLine) : MtR X "list.index" (rIxP false) := by
  intro pins s σ H x xs v us Q I rx rxs ⟨a, y, d, ds, j, ex, exs, hl, hy, pl, pd, hd, hj, q⟩
  subst ex exs
  cases rx
  obtain ⟨uy, rfl, ry⟩ := vals1 rxs
  obtain ⟨bs, r1, _⟩ := hy.reads I _ ry
  have hroom : X.A.units + 1 + min (PyData.depthAll ds) d.depth < cLine := by omega
  have hl : Rq nz H (.ref a) (.list ds) := hl
  cases hl with
  | lst e n ha =>
    obtain ⟨its, rv, ⟨⟨cls, dd, data, sls⟩, n, ho, hc, hdn, hdt⟩, hlen⟩ := I.list (SqL.of e)
    simp only at hc hdt
    subst hc hdt
    obtain ⟨as, h4, _⟩ := ha.reads I its rv
    obtain ⟨hjl, h1, h2⟩ := ix_at h4 pl hj
    have hsl := sizeLine_eq
    have hvl := rv.length
    have hjz : j < its.length := by simpa using hjl
    refine call_meets PySem.F.slot_list_index ⟨_, ho, rfl⟩ PySem.F.entry_list_index (PySem.F.args_list_index_2 _ _)
      (SeqAt.list_indexAt a its.toArray n dd sls uy (fun u => PyData.eqv (SeqAt.readOf s.heap u) d) j hjl (by omega) h1 h2) ⟨ho, SeqAt.items_plain (vs := its.toArray) (show ReadsAll s.heap its.toArray.toList ds as from h4) r1 pl pd hroom, ?_⟩
    exact ⟨.int (j : Nat), H, I.tok _, ⟨_, rfl⟩, q⟩
theorem mt_ixT (hu : X.A.units + 65 < cLine) : MtR X "tuple.index" (rIxP true) := by
  intro pins s σ H x xs v us Q I rx rxs ⟨a, y, d, ds, j, ex, exs, hl, hy, pl, pd, hd, hj, q⟩
  subst ex exs
  cases rx
  obtain ⟨uy, rfl, ry⟩ := vals1 rxs
  obtain ⟨bs, r1, _⟩ := hy.reads I _ ry
  have hroom : X.A.units + 1 + min (PyData.depthAll ds) d.depth < cLine := by omega
  have hl : Rq nz H (.ref a) (.tuple ds) := hl
  cases hl with
  | tup e _ n ha =>
    obtain ⟨its, rv, ⟨⟨cls, dd, data, sls⟩, ho, hc, n, hdt⟩, hlen⟩ := I.tuple (SqT.th e)
    simp only at hc hdt
    subst hc hdt
    obtain ⟨as, h4, _⟩ := ha.reads I its rv
    obtain ⟨hjl, h1, h2⟩ := ix_at h4 pl hj
    refine call_meets PySem.F.slot_tuple_index ⟨_, ho, rfl⟩ PySem.F.entry_tuple_index (PySem.F.args_tuple_index_2 _ _)
      (TI.tuple_indexAt a its.toArray n dd sls uy (fun u => PyData.eqv (SeqAt.readOf s.heap u) d) j hjl h1 h2) ⟨ho, SeqAt.items_plain (vs := its.toArray) (show ReadsAll s.heap its.toArray.toList ds as from h4) r1 pl pd hroom, ?_⟩
    exact ⟨.int (j : Nat), H, I.tok _, ⟨_, rfl⟩, q⟩
end
@[simp] def isSq : D → Prop
  | .py (.list _) => True
  | .py (.tuple _) => True
  | _ => False
@[simp] def gIndex : D → List D → (D → Prop) → Prop
  | .py (.list xs), [.py d], Q => PyData.plainAll xs = true ∧ d.plain = true ∧ (d.depth ≤ 60 ∨ PyData.depthAll xs ≤ 60) ∧ ∃ j, ixOf xs d = some j ∧ Q (.py (.int (j : Nat)))
  | .py (.tuple xs), [.py d], Q => PyData.plainAll xs = true ∧ d.plain = true ∧ (d.depth ≤ 60 ∨ PyData.depthAll xs ≤ 60) ∧ ∃ j, ixOf xs d = some j ∧ Q (.py (.int (j : Nat)))
  | _, _, _ => False
theorem mx_index {X : Cx} {b : Bg} (hu : X.A.units + 65 < cLine) : MetX X b (RE b) "index" isSq gIndex := fun Z H x d gd rx kd => by
  match d, kd, rx with
  | .py (.list ps), _, rx =>
    obtain ⟨a, us, rfl, ha, _⟩ := rx.list
    refine ⟨_, ⟨"list", _, PySem.F.plainAttrs_list, PySem.F.slot_list_index, PySem.F.type_list_index, mt_ixL hu, ty_lst ha⟩, fun H' xs ds Q Qd _ gd' rx' rs h k => ?_⟩
    match ds, h, rs with
    | [.py c], ⟨h1, h2, h3, j, h4, h⟩, .cons r .nil =>
      exact ⟨a, _, c, ps, j, rfl, rfl, rx'.q, r.q, h1, h2, h3, h4, k _ H' (.py (.int _)) Ex.refl gd'.g (.int _) h⟩
  | .py (.tuple ps), _, rx =>
    obtain ⟨a, o, us, rfl, ha, hd, _, _⟩ := rx.tuple
    refine ⟨_, ⟨"tuple", _, PySem.F.plainAttrs_tuple, PySem.F.slot_tuple_index, PySem.F.type_tuple_index, mt_ixT hu, ty_tup ha hd⟩, fun H' xs ds Q Qd _ gd' rx' rs h k => ?_⟩
    match ds, h, rs with
    | [.py c], ⟨h1, h2, h3, j, h4, h⟩, .cons r .nil =>
      exact ⟨a, _, c, ps, j, rfl, rfl, rx'.q, r.q, h1, h2, h3, h4, k _ H' (.py (.int _)) Ex.refl gd'.g (.int _) h⟩
/-- how often: of a text, of a list of ints -/
@[simp] def isCt : D → Prop
  | .py (.str _) => True
  | .py (.list _) => True
  | _ => False
@[simp] def gCount : D → List D → (D → Prop) → Prop
  | .py (.str a), [.py (.str b)], Q => Q (.py (.int (Txt.count a b)))
  | .py (.list xs), [.py (.int k)], Q => ∃ ns, allI xs = some ns ∧ Q (.py (.int (ns.count k : Nat)))
  | _, _, _ => False
theorem mx_cnt {X : Cx} {b : Bg} : MetX X b (RE b) "count" isCt gCount := fun Z H x d gd rx kd => by
  match d, kd, rx with
  | .py (.str z), _, rx =>
    obtain ⟨r, al, h⟩ := mx_count Z H x (.py (.str z)) gd rx trivial
    exact ⟨r, al, fun H' xs ds Q Qd x1 gd' rx' rs g k => h H' xs ds Q Qd x1 gd' rx' rs (by
      match ds, g with
      | [.py (.str c)], g => exact g) k⟩
  | .py (.list ps), _, rx =>
    obtain ⟨a, us, rfl, ha, _⟩ := rx.list
    refine ⟨_, ⟨"list", _, PySem.F.plainAttrs_list, PySem.F.slot_list_count, PySem.F.type_list_count, mt_lcount, ty_lst ha⟩, fun H' xs ds Q Qd _ gd' rx' rs h k => ?_⟩
    match ds, h, rs with
    | [.py (.int c)], ⟨ns, e, h⟩, .cons r .nil =>
      obtain rfl := r.int
      obtain ⟨a', us', ea, ha', qa'⟩ := rx'.list
      cases ea
      rw [allI_of e] at qa'
      have eu := qa'.ints
      subst eu
      exact ⟨a, ns, c, rfl, rfl, SqL.of ha', k _ H' (.py (.int _)) Ex.refl gd'.g (.int _) h⟩
end VL
set_option Elab.async false
set_option linter.all false
set_option maxRecDepth 100000
set_option maxHeartbeats 4000000
namespace VL
open PySem PySem.Spec PyProof.Rows L2 HT
/-! ### text * int, text[::-1] -/
def repS (z : Str) (k : Int) : Str := mkS (List.replicate k.toNat (sl z)).flatten
theorem mkS_sl (z : Str) : mkS (sl z) = z := by cases z; simp [mkS, sl]
@[simp] theorem sl_mkS (l : List Nat) : sl (mkS l) = l := by simp [mkS, sl]
@[simp] theorem len_mkS (l : List Nat) : (mkS l).length = l.length := by simp [mkS, Str.length]
theorem slen (z : Str) : (sl z).length = z.length := by simp [sl, Str.length]
def rRepS : R2 := fun x y H Q => ∃ z k, x = .str z ∧ y = .int k ∧ -(2 ^ 63) ≤ k ∧ k < 2 ^ 63 ∧ z.length * k.toNat ≤ 16777216 ∧ Q (.str (repS z k)) H
theorem foldl_app (n : Nat) (a b : Array Nat) : (List.replicate n a).foldl (· ++ ·) b = (b.toList ++ (List.replicate n a.toList).flatten).toArray := by
  induction n generalizing b with
  | zero => simp
  | succ n ih => rw [List.replicate_succ, List.foldl_cons, ih, List.replicate_succ, List.flatten_cons]; simp
theorem op_repS {X : Cx} : OpR X (binaryOp .Mult) rRepS := by
  intro pins s σ H x y v u Q I rx ry ⟨z, k, ex, ey, h1, h2, h3, q⟩
  subst ex ey
  obtain ⟨t, rfl⟩ := rx
  obtain ⟨t2, rfl⟩ := ry
  refine P.mul_str (by rw [decide_eq_false (by omega), decide_eq_false (by omega)]; rfl) (fun c c2 => ?_) (fun c c2 => ?_) ?_
  · intro hgt
    have kp : 0 < k := by omega
    have hz : (z.length : Int) * k ≤ 16777216 := by
      have e : ((z.length * k.toNat : Nat) : Int) ≤ 16777216 := by omega
      have e2 : ((k.toNat : Nat) : Int) = k := by omega
      rw [Int.natCast_mul, e2] at e
      exact e
    have h5 : ((2 ^ 63 - 1 : Int) / k + 1) * k > 2 ^ 63 - 1 := by
      have := Int.lt_ediv_add_one_mul_self (2 ^ 63 - 1) kp
      exact this
    have h6 : ((2 ^ 63 - 1 : Int) / k + 1) * k ≤ (z.length : Int) * k := Int.mul_le_mul_of_nonneg_right (by omega) (by omega)
    omega
  · unfold Builtin.Str.tooLong
    rw [sizeLine_eq]
    exact decide_eq_false (by omega)
  · by_cases c : k < 1
    · rw [if_pos c]
      refine ⟨by show 0 ≤ sizeLine; omega, .str Str.empty, H, I.tok _, ⟨_, rfl⟩, ?_⟩
      have e : repS z k = Str.empty := by
        unfold repS
        have : k.toNat = 0 := by omega
        rw [this]
        rfl
      rw [← e]; exact q
    · rw [if_neg c]
      split
      · rename_i c2
        have e : repS z k = z := by
          unfold repS
          rcases Bool.or_eq_true_iff.mp c2 with c3 | c3
          · have : k = 1 := eq_of_beq c3
            subst this
            show mkS (List.replicate 1 (sl z)).flatten = z
            simp [mkS_sl]
          · have hz : (sl z).length = 0 := by rw [slen]; exact eq_of_beq c3
            have hz' : sl z = [] := List.length_eq_zero_iff.mp hz
            rw [hz']
            have : (List.replicate k.toNat ([] : List Nat)).flatten = [] := by simp
            rw [this, ← hz', mkS_sl]
        refine ⟨.str z, H, I, ⟨_, rfl⟩, ?_⟩
        rw [← e]; exact q
      · refine ⟨?_, .str (repS z k), H, ?_⟩
        · show Array.size _ ≤ sizeLine
          rw [foldl_app, List.size_toArray]
          simp
          rw [Nat.mul_comm]
          have : z.cps.size = z.length := rfl
          rw [this]
          exact h3
        · have e : (⟨(List.replicate k.toNat z.cps).foldl (· ++ ·) #[]⟩ : Str) = repS z k := by
            rw [foldl_app]; rfl
          rw [e]
          exact ⟨I.tok _, ⟨_, rfl⟩, q⟩
def rBkS : V → Hp → VK → Prop := fun x H Q => ∃ z, x = .str z ∧ z.length ≤ 16777216 ∧ Q (.str (mkS (sl z).reverse)) H
theorem range_down (n : Nat) : Builtin.Str.strSliceIndices none none (-1) n = (List.range n).reverse := by
  have e : Builtin.Str.strSliceIndices none none (-1) n = sliceRange ((n : Int) - 1) (-1) (-1) := rfl
  rw [e]
  unfold sliceRange
  rw [if_neg (by omega)]
  dsimp only
  have c : (if (n : Int) - 1 > -1 then ((n : Int) - 1 - -1 - -1 - 1) / (- -1) else 0).toNat = n := by
    split
    · rw [Int.neg_neg, Int.ediv_one]; omega
    · omega
  rw [c, ← PySem.W.krv_range]
  refine List.map_congr_left fun m hm => ?_
  have := List.mem_range.mp hm
  omega
theorem pick_down (a : Array Nat) : ((List.range a.size).reverse.filterMap fun (i : Nat) => a[i]?) = a.toList.reverse := by
  rw [List.filterMap_reverse]
  congr 1
  have : (fun (i : Nat) => a[i]?) = (fun (i : Nat) => a.toList[i]?) := by funext i; simp
  rw [this]
  have h : ∀ (l : List Nat), (List.range l.length).filterMap (fun (i : Nat) => l[i]?) = l := by
    intro l
    apply List.ext_getElem?
    intro i
    have : (List.range l.length).filterMap (fun (i : Nat) => l[i]?) = l := by
      induction l with
      | nil => rfl
      | cons x l ih =>
        rw [List.length_cons, List.range_succ_eq_map, List.filterMap_cons, List.filterMap_map]
        simp
        exact ih
    rw [this]
  have := h a.toList
  rwa [Array.length_toList] at this
theorem bk_str {X : Cx} : BkR X rBkS := by
  intro pins s σ H x v tk sl' Q I rx hs ⟨z, ex, hz, q⟩
  subst ex
  obtain ⟨t, rfl⟩ := rx
  refine ⟨"str", _, F.slot_str_getitem.lookup, typeIs_str _ _ _, wpAny_getItem_str_slice (l := none) (u := none) (st := some (-1, tk)) hs rfl ?_⟩
  have e : (((slicePicked z none none (some (-1, tk))).filterMap (z.cps[·]?)).toArray : Array Nat) = (sl z).reverse.toArray := by
    unfold slicePicked
    show ((Builtin.Str.strSliceIndices none none (-1) z.length).filterMap _).toArray = _
    rw [range_down]
    exact congrArg List.toArray (pick_down z.cps)
  unfold sliceMade
  rw [if_neg (by simp), e]
  refine ⟨?_, .str (mkS (sl z).reverse), H, I.tok _, ⟨_, rfl⟩, q⟩
  show Array.size _ ≤ sizeLine
  rw [List.size_toArray, List.length_reverse, slen, sizeLine_eq]
  exact hz
section
variable {X : Cx} {b : Bg} {W : WX} {e e1 e2 st : Expr} {t t1 t2 : VT} {tl : VO} {p2 pos : Pos}
@[simp] def gBkA : D → (D → Prop) → Prop
  | .py (.list xs), Q => Q (.py (.list xs.reverse))
  | .py (.tuple xs), Q => Q (.py (.tuple xs.reverse))
  | .py (.str z), Q => z.length ≤ 16777216 ∧ Q (.py (.str (mkS (sl z).reverse)))
  | _, _ => False
@[simp] def vBkA (t : VT) (tl : VO) : VT := fun ρ Q E => t ρ (fun x => tl ρ (fun k => k = some (-1) ∧ gBkA x Q) E) E
theorem ve_backA (h : VX X b W e t) (h1 : VPt X b W (some st) tl) : VE X b W (.Subscript e (.Slice none none (some st) p2) pos) (vBkA t tl) :=
  pe_mono (pe_back ((bk_list.or bk_tup).or bk_str) h h1) fun σ H Q ⟨Zo, Z, ρ, Qd, Ed, v, q, l, m⟩ => ⟨Zo, Z, ρ, _, Ed, v, q, fun x H1 d x1 g1 r1 q1 => ⟨Zo, Z, ρ, _, Ed, v.ex x1 g1, q1, fun k H2 x2 g2 ⟨ek, q2⟩ => by
    refine ⟨ek, ?_⟩
    have v2 := (v.ex x1 g1).ex x2 g2
    have r2 := r1.ex ((v.ex x1 g1).keep x2) x2
    match d, q2, r2 with
    | .py (.list xs), q2, r2 =>
      obtain ⟨a, us, rfl, ha, qa⟩ := r2.list
      exact .inl (.inl ⟨a, us, rfl, SqL.of ha, fun p hp => l _ _ (.py (.list xs.reverse)) ((x1.trans x2).trans (Ex.new hp)) (Bg.new g2 hp) (Rq.lst upd_same (v2.fresh hp) (qa.reverse.up hp)) q2⟩)
    | .py (.tuple xs), q2, r2 =>
      obtain ⟨a, oa, us, rfl, ha, da, na, qa⟩ := r2.tuple
      exact .inl (.inr ⟨a, us, rfl, SqT.th ha, fun p o hp ho => l _ _ (.py (.tuple xs.reverse)) ((x1.trans x2).trans (Ex.new hp)) (Bg.new g2 hp) (Rq.tup upd_same ho (v2.fresh hp) (qa.reverse.up hp)) q2⟩)
    | .py (.str z), ⟨hz, q2⟩, r2 =>
      obtain rfl := r2.str
      exact .inr ⟨z, rfl, hz, l _ H2 (.py (.str _)) (x1.trans x2) g2 (.str _) q2⟩,
    fun c z H2 er x2 g2 r2 q2 => m c z H2 er (x1.trans x2) g2 r2 q2⟩, m⟩
/-- products, of a text too -/
@[simp] def gMulA : D → D → (D → Prop) → Prop
  | .py (.int i), .py (.int j), Q => CMul i j ∧ Q (.py (.int (i * j)))
  | .py (.list xs), .py (.int k), Q => (-(2 ^ 63) ≤ k ∧ k < 2 ^ 63 ∧ xs.length * k.toNat ≤ sizeLine) ∧ Q (.py (.list (List.replicate k.toNat xs).flatten))
  | .py (.tuple xs), .py (.int k), Q => (xs ≠ [] ∧ 2 ≤ k ∧ k ≤ 1000 ∧ xs.length ≤ 1000) ∧ Q (.py (.tuple (List.replicate k.toNat xs).flatten))
  | .py (.str z), .py (.int k), Q => (-(2 ^ 63) ≤ k ∧ k < 2 ^ 63 ∧ z.length * k.toNat ≤ 16777216) ∧ Q (.py (.str (repS z k)))
  | _, _, _ => False
theorem rd_mulA : OpD b (RE b) (fun x y H Q => (fun x y H Q => rI CMul (fun i j => .int (i * j)) x y H Q ∨ (fun x y H Q => rRep x y H Q ∨ rRepF X.K x y H Q) x y H Q) x y H Q ∨ rRepS x y H Q) gMulA := by
  intro Z H x y dx dy Q Qd gd rx ry h k
  match dx, dy, h, rx, ry with
  | .py (.int i), .py (.int j), h, rx, ry => exact .inl (rd_mul Z H x y (.py (.int i)) (.py (.int j)) Q Qd gd rx ry h k)
  | .py (.list xs), .py (.int n), h, rx, ry => exact .inl (rd_mul Z H x y (.py (.list xs)) (.py (.int n)) Q Qd gd rx ry h k)
  | .py (.tuple xs), .py (.int n), h, rx, ry => exact .inl (rd_mul Z H x y (.py (.tuple xs)) (.py (.int n)) Q Qd gd rx ry h k)
  | .py (.str z), .py (.int n), ⟨⟨h1, h2, h3⟩, h⟩, rx, ry =>
    obtain rfl := rx.str
    obtain rfl := ry.int
    exact .inr ⟨z, n, rfl, rfl, h1, h2, h3, k _ H (.py (.str _)) Ex.refl gd.g (.str _) h⟩
theorem ve_mulA (h1 : VX X b W e1 t1) (h2 : VX X b W e2 t2) : VE X b W (.BinOp e1 .Mult e2 pos) (vBin gMulA t1 t2) := ve_op (OpR.or (OpR.or op_mul (OpR.or op_rep op_repF)) op_repS) rd_mulA h1 h2
end
/-! ### name op= value -/
@[simp] def gAugAdd : D → D → (D → Prop) → Prop
  | .py (.int i), .py (.int j), Q => Q (.py (.int (i + j)))
  | .py (.str x), .py (.str y), Q => x.length + y.length ≤ 16777216 ∧ Q (.py (.str (x ++ y)))
  | _, _, _ => False
@[simp] def gAugSub : D → D → (D → Prop) → Prop
  | .py (.int i), .py (.int j), Q => Q (.py (.int (i - j)))
  | _, _, _ => False
@[simp] def sAugA (i : Nat) (g : D → D → (D → Prop) → Prop) (t : VT) : VS := fun ρ De => ∃ d0, ρ[i]? = some (.shr d0) ∧ t ρ (fun d => g d0 d fun z => De.nx (ρ.set i (.shr z))) (De.ex ρ)
section
variable {X : Cx} {b : Bg} {W : WX} {e : Expr} {t : VT} {pos pos' : Pos} {i : Nat} {x : Str}
theorem ip_addA : PIp X .Add (fun x y H Q => ipI (fun i j => i + j) x y H Q ∨ rAddS x y H Q) := fun pins s σ H x y v u Q I r1 r2 h => h.elim (ip_add pins s σ H x y v u Q I r1 r2) (in_addS pins s σ H x y v u Q I r1 r2)
theorem vs_augG {op : Operator} {ti : TIp} {g : D → D → (D → Prop) → Prop} (hp : PIp X op ti) (hg : ∀ (Z : Addr → Prop) (H : Hp) (u v : V) (d0 d : D) (Q : VK) (Qd : D → Prop), Rp b Z H u d0 → Rp b Z H v d → g d0 d Qd → (∀ w z, Rp b Z H w z → Qd z → Q w H) → ti u v H Q)
    (hN : X.N.Nodup) (hi : X.N[i]? = some x) (hx : Loc X.env.scope x) (he : VE X b W e t) (hf : X.fn x = true ∨ X.env.scope.names.lookup x = some .local := by first | exact .inl rfl | exact .inr rfl | assumption) :
    VSt X b W (.AugAssign (.Name x pos') op e pos) (sAugA i g t) :=
  ps_mono (ps_aug hN hi hx he hp hf) fun Dn σ H ⟨H0, M, Zo, Z, ρ, De, f, ⟨d0, e0, q⟩, l⟩ => by
    obtain ⟨u, hu, ru⟩ := f.v.shr i d0 e0
    refine ⟨u, hu, Zo, Z, ρ, _, _, f.v, q, fun v H1 d x1 g1 r1 q1 => ?_, l.er f⟩
    have f1 := f.ex x1 g1
    exact hg Z H1 u v d0 d _ _ (f.v.rp x1 ru) r1 q1 fun w z rz qz => l.nx _ _ H1 _ (f1.set (List.getElem?_eq_some_iff.mp e0).1 rz) qz
theorem vs_augAdd (hN : X.N.Nodup) (hi : X.N[i]? = some x) (hx : Loc X.env.scope x) (he : VE X b W e t) (hf : X.fn x = true ∨ X.env.scope.names.lookup x = some .local := by first | exact .inl rfl | exact .inr rfl | assumption) :
    VSt X b W (.AugAssign (.Name x pos') .Add e pos) (sAugA i gAugAdd t) :=
  vs_augG ip_addA (fun Z H u v d0 d Q Qd r1 r2 g k => by
    match d0, d, g, r1, r2 with
    | .py (.int i), .py (.int j), g, r1, r2 =>
      obtain rfl := Rb.int (b := b) (Z := Z) (H := H) (.inl r1)
      obtain rfl := Rb.int (b := b) (Z := Z) (H := H) (.inl r2)
      exact .inl ⟨i, j, rfl, rfl, k _ (.py (.int _)) (Rq.int _) g⟩
    | .py (.str i), .py (.str j), ⟨hl, g⟩, r1, r2 =>
      obtain rfl := Rb.str (b := b) (Z := Z) (H := H) (.inl r1)
      obtain rfl := Rb.str (b := b) (Z := Z) (H := H) (.inl r2)
      exact .inr ⟨i, j, rfl, rfl, by rw [sizeLine_eq]; exact hl, k _ (.py (.str _)) (Rq.str _) g⟩) hN hi hx he hf
theorem vs_augSub (hN : X.N.Nodup) (hi : X.N[i]? = some x) (hx : Loc X.env.scope x) (he : VE X b W e t) (hf : X.fn x = true ∨ X.env.scope.names.lookup x = some .local := by first | exact .inl rfl | exact .inr rfl | assumption) :
    VSt X b W (.AugAssign (.Name x pos') .Sub e pos) (sAugA i gAugSub t) :=
  vs_augG ip_sub (fun Z H u v d0 d Q Qd r1 r2 g k => by
    match d0, d, g, r1, r2 with
    | .py (.int i), .py (.int j), g, r1, r2 =>
      obtain rfl := Rb.int (b := b) (Z := Z) (H := H) (.inl r1)
      obtain rfl := Rb.int (b := b) (Z := Z) (H := H) (.inl r2)
      exact ⟨i, j, rfl, rfl, k _ (.py (.int _)) (Rq.int _) g⟩) hN hi hx he hf
/-- xs[i] = v, an owned list -/
def setAt (xs : List PyData) (k : Int) (p : PyData) : Option (List PyData) := (ixN xs.length k).map fun j => xs.set j p
@[simp] def sStoL (i : Nat) (ty tv : VT) : VS := fun ρ De => ∃ xs, ρ[i]? = some (.own (.py (.list xs))) ∧ tv ρ (fun v => ∃ p, v = .py p ∧ ty ρ (fun y => ∃ k, y = .py (.int k) ∧ ∃ ys, setAt xs k p = some ys ∧ De.nx (ρ.set i (.own (.py (.list ys))))) (De.ex ρ)) (De.ex ρ)
theorem vs_stoL {o ei : Expr} {ty tv : VT} (ho : PE X o (tVar i)) (hi : VE X b W ei ty) (hv : VE X b W e tv)
    (ha : ∀ v, assign (.Subscript o ei pos') X.env v = (do
      let ov ← holding [v] (eval o X.env)
      let iv ← holding [v, ov] (eval ei X.env)
      standAt pos'
      holding [v, ov, iv] (setItem ov iv v)
      release [v, ov, iv] []) := by intro _; rfl)
    (hs : swapsWithSole [.Subscript o ei pos'] e pos.line X.env = pure false := by rfl) (hw : swappedStores [.Subscript o ei pos'] e X.env = pure none := by rfl)
    (h1 : (assignEach [.Subscript o ei pos'] X.env).map (·.2) = [assign (.Subscript o ei pos') X.env] := by rfl) : VSt X b W (.Assign [.Subscript o ei pos'] e pos) (sStoL i ty tv) :=
  ps_mono (ps_asg hv (pg_sub ho hi set_list ha) hs hw h1) fun Dn σ H ⟨H0, M, Zo, Z, ρ, De, f, ⟨xs, e1, q⟩, l⟩ => by
    refine ⟨Zo, Z, ρ, _, _, f.v, q, fun v H1 dv x1 g1 r1 ⟨p, ep, q1⟩ => ?_, l.er f⟩
    subst ep
    have f1 := f.ex x1 g1
    obtain ⟨a, h1, h2, h3, h4⟩ := f1.v.own i _ e1
    refine ⟨.ref a, h1, Zo, Z, ρ, _, _, f1.v, q1, fun y H2 dy x2 g2 r2 ⟨k, ey, ys, es, q2⟩ => ?_, l.er f1⟩
    subst ey
    obtain rfl := Rb.int (b := b) (Z := Z) (H := H2) (.inl r2)
    have f2 := f1.ex x2 g2
    obtain ⟨a', h1', h2', h3', xs', h4', h5'⟩ := f2.v.own i _ e1
    rw [h1] at h1'; cases h1'
    unfold setAt at es
    cases ej : ixN xs.length k with
    | none => rw [ej] at es; cases es
    | some j =>
      rw [ej] at es; cases es
      refine ⟨a, xs', k, j, rfl, rfl, h4', by rw [h5'.length]; exact ej, l.nx _ _ _ _ (f2.mut (d' := .py (.list (xs.set j p))) e1 h1 ⟨_, upd_same, ?_⟩) q2⟩
      exact (h5'.set (f1.v.rq x2 r1) j).mono (fun c z => .inl z) fun c u e n => by
        rw [upd_ne (fun w => n (by rw [w]; exact h2))]
        exact e
end
end VL
set_option Elab.async false
set_option linter.all false
set_option maxRecDepth 100000
set_option maxHeartbeats 4000000
namespace VL
open PySem PySem.Spec PyProof.Rows L2 HT TL
theorem hu65 {A : Around} {k : Nat} (r : Room k A) : A.units + 65 < cLine := by have := r.un; omega
/-! ### texts as lists of signs -/
@[simp] theorem mkS_inj {a b : List Nat} : mkS a = mkS b ↔ a = b := ⟨fun e => by have := congrArg sl e; simpa using this, fun e => by rw [e]⟩
@[simp] theorem mkS_app (a b : List Nat) : mkS a ++ mkS b = mkS (a ++ b) := ext_tl (by rw [tl_append])
@[simp] theorem beq_mkS (a b : List Nat) : (mkS a == mkS b) = (a == b) := by
  by_cases h : a = b
  · subst h; simp
  · have h2 : mkS a ≠ mkS b := fun e => h (mkS_inj.mp e)
    rw [beq_eq_false_iff_ne.mpr h2, beq_eq_false_iff_ne.mpr h]
@[simp] theorem repS_mkS (l : List Nat) (k : Int) : repS (mkS l) k = mkS (List.replicate k.toNat l).flatten := rfl
@[simp] theorem cps_mkS (l : List Nat) : (mkS l).cps = l.toArray := rfl
def encC (c : Nat) : PyData := .str (mkS [c])
@[simp] theorem encC_eq (c : Nat) : encC c = .str (mkS [c]) := rfl
theorem signsD_mkS (l : List Nat) : signsD (mkS l) = l.map encC := rfl
@[simp] theorem str_ab (a b : Str) : (PyData.str a = PyData.str b) ↔ a = b := ⟨fun e => by injection e, fun e => by rw [e]⟩
open Builtin.Str in
theorem occ_step (z : Str) (c k lim : Nat) (st : Array Nat × Nat) (h1 : st.2 ≤ k) (h2 : st.1.size < lim) : StrLaws.occBody z ⟨#[c]⟩ z.length lim k st = if (sl z)[k]? = some c then pure (ForInStep.yield (st.1.push k, k + 1)) else pure (ForInStep.yield (st.1, st.2)) := by
  unfold StrLaws.occBody
  have e := StrLaws.subAt_one z c k
  by_cases h : (sl z)[k]? = some c
  · have h' := e.mpr h
    rw [if_pos ⟨⟨⟨h2, h1⟩, h'.1⟩, h'.2⟩, if_pos h]
    rfl
  · rw [if_neg (fun q => h (e.mp ⟨q.1.2, q.2⟩)), if_neg h]
theorem occ_sign (z : Str) (c : Nat) : ∀ (n k free : Nat) (acc : Array Nat), free ≤ k → acc.size ≤ k → k + n = z.length + 1 →
    (forIn (List.range' k n) (acc, free) (StrLaws.occBody z ⟨#[c]⟩ z.length (z.length + 1))).run.fst.toList.length = acc.size + ((sl z).drop k).count c
  | 0, k, free, acc, h1, h2, h3 => by
    have : (sl z).drop k = [] := List.drop_eq_nil_of_le (by rw [slen]; omega)
    rw [this]; simp
  | n + 1, k, free, acc, h1, h2, h3 => by
    rw [List.range'_succ, List.forIn_cons, occ_step z c k _ (acc, free) h1 (by show acc.size < _; omega)]
    by_cases hk : k < z.length
    · have hk' : k < (sl z).length := by rw [slen]; exact hk
      rw [List.drop_eq_getElem_cons hk', List.getElem?_eq_getElem hk']
      by_cases hc : (sl z)[k] = c
      · rw [if_pos (by rw [hc]), hc, List.count_cons_self]
        have := occ_sign z c n (k + 1) (k + 1) (acc.push k) (by omega) (by simp; omega) (by omega)
        rw [Array.size_push] at this
        simp only [pure_bind]
        omega
      · rw [if_neg (by simpa using hc), List.count_cons_of_ne (by simpa using hc)]
        exact occ_sign z c n (k + 1) free acc (by omega) (by omega) (by omega)
    · have e : (sl z).drop k = [] := List.drop_eq_nil_of_le (by rw [slen]; omega)
      rw [if_neg (by rw [List.getElem?_eq_none (by rw [slen]; omega)]; simp), e]
      have := occ_sign z c n (k + 1) free acc (by omega) (by omega) (by omega)
      have e2 : (sl z).drop (k + 1) = [] := List.drop_eq_nil_of_le (by rw [slen]; omega)
      rw [e2] at this
      exact this
theorem count_sign (z : Str) (c : Nat) : Txt.count z (mkS [c]) = ((sl z).count c : Nat) := by
  unfold Txt.count
  rw [StrLaws.occ_eq]
  have := occ_sign z c (z.length + 1 - 0) 0 0 #[] (by omega) (by simp) (by omega)
  simp at this ⊢
  exact_mod_cast this
@[simp] theorem count_mkS (l : List Nat) (c : Nat) : Txt.count (mkS l) (mkS [c]) = (l.count c : Nat) := by rw [count_sign, sl_mkS]
theorem join0 (ls : List (List Nat)) : Txt.join (mkS []) (ls.map mkS) = mkS ls.flatten := by
  rw [join_eq]
  refine ext_tl ?_
  rw [tl_join]
  have : (ls.map mkS).map tl = ls := by rw [List.map_map]; exact List.map_id ls
  rw [this]
  show joinL [] ls = ls.flatten
  have h : ∀ ls : List (List Nat), joinL [] ls = ls.flatten := by
    intro ls
    induction ls with
    | nil => rfl
    | cons p r ih =>
      cases r with
      | nil => simp [joinL]
      | cons q r => rw [joinL, ih]; simp
  exact h ls
@[simp] theorem atI_zero {α : Type} (x : α) (xs : List α) : atI (x :: xs) 0 = some x := by
  have e : ixN (x :: xs).length 0 = some 0 := by
    unfold ixN
    rw [if_pos (by omega), if_pos (by simp)]; rfl
  unfold atI
  rw [e]; rfl
theorem allS_mk (ls : List (List Nat)) : allS (ls.map fun l => PyData.str (mkS l)) = some (ls.map mkS) := by
  induction ls with
  | nil => rfl
  | cons l ls ih => simp [allS, ih]
theorem allI_mk (ls : List Int) : allI (ls.map PyData.int) = some ls := by
  induction ls with
  | nil => rfl
  | cons l ls ih => simp [allI, ih]
theorem allB_mk (ls : List Bool) : allB (ls.map PyData.bool) = some ls := by
  induction ls with
  | nil => rfl
  | cons l ls ih => simp [allB, ih]
theorem allI_pN (ls : List Nat) : allI (ls.map pN) = some (ls.map fun (n : Nat) => (n : Int)) := by
  have : ls.map pN = (ls.map fun (n : Nat) => (n : Int)).map PyData.int := by rw [List.map_map]; rfl
  rw [this, allI_mk]
theorem allS_signs (l : List Nat) : allS (l.map encC) = some (l.map fun c => mkS [c]) := by
  induction l with
  | nil => rfl
  | cons c l ih => simp [allS, ih]
theorem sum_signs (l : List Nat) : ((l.map fun c => mkS [c]).map (·.length)).sum = l.length := by
  induction l with
  | nil => rfl
  | cons c l ih => simp at ih ⊢; omega
theorem flat_signs (l : List Nat) : (l.map fun c => [c]).flatten = l := by
  induction l with
  | nil => rfl
  | cons c l ih => rw [List.map_cons, List.flatten_cons, ih]; rfl
theorem join_signs (l : List Nat) : Txt.join (mkS []) (l.map fun c => mkS [c]) = mkS l := by
  have : (l.map fun c => mkS [c]) = (l.map fun c => [c]).map mkS := by rw [List.map_map]; rfl
  rw [this, join0, flat_signs]
section
variable {g : VTg} {tt : VB} {te : VT} {tb : VS} {De : VEnds} {ρ : VEnv} {Q : D → Prop} {α β : Type}
theorem lc_enc' (enc : α → PyData) (f : α → Option PyData) {L : List α} {acc : List PyData} (h : ∀ (i : Nat) (x : α), L[i]? = some x → ∀ k, k (f x) → lcStep g tt te (.py (enc x)) ρ k) (hl : acc.length + L.length < 16777216) (q : Q (.py (.list (acc ++ L.filterMap f)))) : lcGo g tt te Q (L.map (D.py ∘ enc)) acc ρ := by
  rw [← List.map_map]; exact lc_enc enc f h hl q
theorem lc_encF' (enc : α → PyData) (p : α → Bool) (e : α → PyData) {L : List α} (h : ∀ (i : Nat) (x : α), L[i]? = some x → ∀ k, (p x = true → k (some (e x))) → (p x = false → k none) → lcStep g tt te (.py (enc x)) ρ k)
    (hl : L.length < 16777216) (q : Q (.py (.list ((L.filter p).map e)))) : lcGo g tt te Q (L.map (D.py ∘ enc)) [] ρ := by
  rw [← List.map_map]; exact lc_encF enc p e h hl q
theorem lc_encM' (enc : α → PyData) (e : α → PyData) {L : List α} (h : ∀ (i : Nat) (x : α), L[i]? = some x → ∀ k, k (some (e x)) → lcStep g tt te (.py (enc x)) ρ k)
    (hl : L.length < 16777216) (q : Q (.py (.list (L.map e)))) : lcGo g tt te Q (L.map (D.py ∘ enc)) [] ρ := by
  rw [← List.map_map]; exact lc_encM enc e h hl q
theorem for_enc' (enc : α → PyData) (Iv : Nat → VEnv → Prop) {L : List α} (h0 : Iv 0 ρ) (h : ∀ i x ρ, L[i]? = some x → Iv i ρ → ∀ nx ct : VEnv → Prop, (∀ ρ', Iv (i + 1) ρ' → nx ρ' ∧ ct ρ') → g (.py (enc x)) ρ fun ρ1 => tb ρ1 ⟨nx, De.rt, De.nx, ct, De.ex⟩) (hd : ∀ ρ, Iv L.length ρ → De.nx ρ) :
    forGo g tb (L.map (D.py ∘ enc)) ρ De := by
  rw [← List.map_map]; exact for_enc enc Iv h0 h hd
end
end VL
set_option Elab.async false
set_option linter.all false
set_option maxRecDepth 100000
set_option maxHeartbeats 4000000
/-! ### isinstance of a caught error that has a dict -/
namespace PySem.W
open PySem PySem.Spec PySem.Calls PyProof.Rows
section
variable {prog : Program} {w : World} {A : Around} {E : Value → Shared → Prop} {s : Shared} {K : Frag} {x D : Addr} {ox : Obj} {od : Option Obj}
theorem findObj_dataA {C : Addr} {name : Str} {a g : Value} (hc : (clsIn K C).isSome = true) (ha : findIn K (.ref C) name = some (some a)) (hg : specialIn K a "__get__" = some (some g)) (ht : takesIn K a = some true) : findObj K C od name = some (.bind g a) := by
  obtain ⟨cd, hc⟩ := Option.isSome_iff_exists.mp hc
  unfold findObj
  rw [hc, Option.bind_some, ha, Option.bind_some]
  simp [hg, ht]
theorem kin_classA {Q : Option Value → Shared → Prop} (hga : findIn K (.ref D) "__getattribute__" = some (some (.builtin "BaseException.__getattribute__"))) (hgt : findIn K (.ref D) "__getattr__" = some none) (hsub : subIn K (.ref D) (.type "BaseException") = some true)
    (hdct : hasDictIn K D = true) (ha : findIn K (.ref D) "__class__" = some (some (.builtin "object.__class__")))
    (hn : specialIn K (.builtin "object.__class__") "__get__" = some (some (.builtin "getset_descriptor.__get__"))) (htk : takesIn K (.builtin "object.__class__") = some true) (hm : mroIn K D (.type "object") = some true)
    (X : K.In s.heap) (I : InstAt s.heap x ox D od) (h : Q (some (.ref D)) { s with toks := s.toks + 1 }) : wpAny (model prog w) A (getAttr? (.ref x) "__class__") Q E s := by
  have hf : findObj K D od "__class__" = some (.bind (.builtin "getset_descriptor.__get__") (.builtin "object.__class__")) := findObj_dataA (by obtain ⟨cd, hc, _⟩ := any_some hdct; rw [hc]; rfl) ha hn htk
  obtain ⟨hp, g, d, t, os⟩ := s
  have L0 := I.type (M := model prog w)
  have L1 := looks_findIn (M := model prog w) X hga
  have L2 := looks_findIn (M := model prog w) X hgt
  have L3 := looks_find (M := model prog w) X I hf
  have sub : Looks (model prog w) hp (isInstance (.ref x) (.type "BaseException")) true := L0.andThen (looks_subIn X hsub)
  have hx0 : (false && onTheHeap (Value.builtin "BaseException.__getattribute__")) = false := rfl
  have hx2 : (Value.builtin "BaseException.__getattribute__" == Value.builtin "object.__getattribute__") = false := by decide +kernel
  have hx1 : (onTheHeap (Value.ref D) && Value.builtin "BaseException.__getattribute__" == Value.builtin "object.__getattribute__") = false := by rw [hx2]; rfl
  unfold getAttr? getAttrBy? getAttrBy
  refine wpAny_bind (wpAny_mkText (wpAny_bind (wpAny_attempt (wpAny_holding (wpAny_bind (L0.at (wpAny_bind (L1.at ?_))))))))
  show wpAny _ _ (if (onTheHeap (Value.ref D) && Value.builtin "BaseException.__getattribute__" == Value.builtin "object.__getattribute__") = true then _ else _) _ _ _
  rw [hx1, if_neg Bool.false_ne_true]
  unfold getAttrByItsOwn hookBefore
  refine wpAny_bind ?_
  rw [if_pos (show onTheHeap (Value.ref D) = true from rfl)]
  refine L2.at ?_
  refine wpAny_bind (wpAny_attempt (wpAny_holding ?_))
  unfold callGetattribute
  rw [hx0, if_neg Bool.false_ne_true]
  unfold boundAndCalled
  rw [PySem.F.excAttr_ValueError.ga.bind (.ref x)]
  refine wpAny_bind (wpAny_pure ?_)
  show wpAny _ _ (call (.builtin "BaseException.__getattribute__") [.ref x, .str "__class__" t]) _ _ _
  refine wpAny_call (codeAny_call_builtin PySem.F.excAttr_ValueError.ga.plain PySem.F.entry_bexc_ga ?_)
  refine @check_slot (model prog w) _ _ ⟨hp, g, d, t + 1, os⟩ "BaseException.__getattribute__" "BaseException" "__getattribute__" (.ref x) [.str "__class__" t] [] _ (by decide +kernel) (by decide +kernel) sub (PySem.F.args_bexc_ga (.ref x) (.str "__class__" t)) ?_
  unfold Builtin.«object.__getattribute__»
  refine wpAny_bind (wpAny_of_eq (a := ((Value.ref x : Value), [Value.str "__class__" t])) (by first | rfl | (simp only [slotArgs]; rfl)) ?_)
  refine wpAny_bind (wpAny_pure (wpAny_bind (L0.at (wpAny_bind (L3.at ?_)))))
  show wpAny _ _ (holding [Value.builtin "object.__class__"] (call (.builtin "getset_descriptor.__get__") [.builtin "object.__class__", .ref x, .ref D]) >>= ret) _ _ _
  refine wpAny_bind (wpAny_holding (wpAny_call (class_get (s := ⟨hp, g, d, t + 1, os⟩) (ox := ox) (od := od) X I hm ?_)))
  refine wpAny_pure ?_
  show wpAny _ _ (handedOut (.ref D)) _ _ _
  rw [handedOut_of (v := .ref D) rfl]
  first
    | exact wpAny_pure (wpAny_pure h)
    | exact wpAny_pure h
    | exact wpAny_pure (wpAny_bind (wpAny_pure (wpAny_pure h)))
theorem kitx_excA (hga : findIn K (.ref D) "__getattribute__" = some (some (.builtin "BaseException.__getattribute__"))) (hgt : findIn K (.ref D) "__getattr__" = some none) (hsub : subIn K (.ref D) (.type "BaseException") = some true) (hdct : hasDictIn K D = true) (ha : findIn K (.ref D) "__class__" = some (some (.builtin "object.__class__")))
    (hn : specialIn K (.builtin "object.__class__") "__get__" = some (some (.builtin "getset_descriptor.__get__"))) (htk : takesIn K (.builtin "object.__class__") = some true) (hm : mroIn K D (.type "object") = some true) :
    KitX K (.ref x) (.ref D) (fun h => ∃ od, InstAt h x ox D od) where
  ty := fun _ _ _ ⟨_, I⟩ => I.type
  it := fun _ _ X _ => by
    obtain ⟨cdD, hcD, _⟩ := any_some hdct
    unfold clsIn at hcD
    split at hcD
    · rename_i c' d' cd' sl' ho
      intro A' Q' E' s' k q
      unfold isType loadHead
      exact wpAny_bind (wpAny_loadPart (k _ _ (X _ _ ho)) (wpAny_pure q))
    · cases hcD
  ne := fun h tp dd its n sl X htp => (handS_kitx_exc (x := x) (ox := ox) hga hgt hsub hdct ha hn htk hm).ne h tp dd its n sl X htp
  ca := fun X ⟨_, I⟩ k => kin_classA hga hgt hsub hdct ha hn htk hm X I k
end
end PySem.W

namespace VL
open PySem PySem.Spec PyProof.Rows L2 HT
/-! ### own errors -/
/-- n is x, or x stands above all errors of the package -/
def errSub (n x : Str) : Bool := n == x || x == "LineError" || x == "ValueError"
/-- what the written part says of an error's class -/
structure ErrC (K : PySem.W.Frag) (C : Addr) : Prop where
  hg : PySem.W.findIn K (.ref C) "__getattribute__" = some (some (.builtin "BaseException.__getattribute__"))
  hk : PySem.W.findIn K (.ref C) "__getattr__" = some none
  hs : PySem.W.subIn K (.ref C) (.type "BaseException") = some true
  hd : PySem.W.hasDictIn K C = true
  ha : PySem.W.findIn K (.ref C) "__class__" = some (some (.builtin "object.__class__"))
  hn : PySem.W.specialIn K (.builtin "object.__class__") "__get__" = some (some (.builtin "getset_descriptor.__get__"))
  ht : PySem.W.takesIn K (.builtin "object.__class__") = some true
  hm : PySem.W.mroIn K C (.type "object") = some true
/-- the classes that a test names: how the errors of the given names answer -/
structure ErrT (K : PySem.W.Frag) (mg : Str → Option Value) (b : Bg) (names : List Str) (x : Str) : Prop where
  ex : ∃ C : Addr, mg x = some (.ref C) ∧ ∀ n ∈ names, PySem.W.exmOne K (.ref (b.cls n)) (.ref C) = some (errSub n x) ∧ PySem.W.kitOne K (.ref (b.cls n)) (.ref C) = some (errSub n x)
/-- n's field f may be read -/
def ErrF (K : PySem.W.Frag) (b : Bg) (n f : Str) : Prop := PySem.W.findIn K (.ref (b.cls n)) f = some none
section
variable {b : Bg} {W : WX} {H0 : Hp} {M Zo Z : Addr → Prop} {σ : L2.St} {H H' : Hp} {ρ : VEnv} {De : VEnds} {Dn : Ends}
/-- a name is forgotten -/
theorem FOk.un (f : FOk b H0 M Zo Z σ H ρ) {i : Nat} (hi : i < ρ.length) : FOk b H0 M Zo (zBut Zo σ ρ i) (σ.set i none) H (ρ.set i .un) := by
  have v := f.v
  have sub := v.but i
  have hiσ : i < σ.length := by rw [← v.len]; exact hi
  have ow : ∀ {j : Nat} {e : D}, (ρ.set i .un)[j]? = some (.own e) → j ≠ i ∧ ρ[j]? = some (.own e) := fun {j e} h => by
    by_cases hj : j = i
    · subst hj
      rw [List.getElem?_set_self hi] at h; cases h
    · rw [List.getElem?_set_ne (Ne.symm hj)] at h
      exact ⟨hj, h⟩
  refine ⟨⟨v.g, v.zb, fun a z => .inl z, fun a z => v.dom a (sub a z), fun a z => ?_, fun j e h => ?_, fun j k e e2 a h1 h2 h3 h4 => ?_, fun j e h => ?_, by simpa using v.len⟩, f.ext, fun j e a h1 h2 => ?_⟩
  · rcases z with z | ⟨j, e, hj, h1, h2⟩
    · exact .inl z
    · exact .inr ⟨j, e, by rw [List.getElem?_set_ne (Ne.symm hj)]; exact h1, by rw [List.getElem?_set_ne (Ne.symm hj)]; exact h2⟩
  · obtain ⟨hj, h⟩ := ow h
    obtain ⟨a, h1, h2, h3, h4⟩ := v.own j e h
    exact ⟨a, by rw [List.getElem?_set_ne (Ne.symm hj)]; exact h1, .inr ⟨j, e, hj, h, h1⟩, h3, h4.mono (fun c z => .inl (sub c z)) (fun _ _ e _ => e) fun _ e => e⟩
  · obtain ⟨hj, h1⟩ := ow h1
    obtain ⟨hk, h2⟩ := ow h2
    rw [List.getElem?_set_ne (Ne.symm hj)] at h3
    rw [List.getElem?_set_ne (Ne.symm hk)] at h4
    exact v.inj j k e e2 a h1 h2 h3 h4
  · by_cases hj : j = i
    · subst hj
      rw [List.getElem?_set_self hi] at h; cases h
    · rw [List.getElem?_set_ne (Ne.symm hj)] at h
      obtain ⟨w, h1, h2⟩ := v.shr j e h
      exact ⟨w, by rw [List.getElem?_set_ne (Ne.symm hj)]; exact h1, h2.mono (fun c z => .inl (sub c z)) fun _ _ e _ => e⟩
  · obtain ⟨hj, h1⟩ := ow h1
    rw [List.getElem?_set_ne (Ne.symm hj)] at h2
    exact f.fr j e a h1 h2
end
/-! ### try: .. except x as n: .. -/
/-- the ends of an except suite: the name is forgotten behind it -/
@[simp] def afterS (i : Nat) (De : VEnds) : VEnds := { nx := fun ρ2 => i < ρ2.length ∧ De.nx (ρ2.set i .un), rt := De.rt, bk := fun ρ2 => i < ρ2.length ∧ De.bk (ρ2.set i .un), ct := fun ρ2 => i < ρ2.length ∧ De.ct (ρ2.set i .un), ex := fun _ _ => False }
/-- i: the slot of n; names: the errors that may be met here -/
@[simp] def sTry (i : Nat) (names : List Str) (x : Str) (tb : VS) (ts : Addr → Option Addr → Er → VS) : VS := fun ρ De => i < ρ.length ∧
  tb ρ { De with ex := fun ρ' er => i < ρ'.length ∧ er.n ∈ names ∧ if errSub er.n x = true then ∀ a d, ts a d er (ρ'.set i (.shr (.err a d er.n er.fs))) (afterS i De) else De.ex ρ' er }
section
variable {X : Cx} {b : Bg} {Wout : WX} {names : List Str} {x n : Str} {i : Nat} {body suite : List Stmt} {b₀ : Stmt} {np pos pos' : Pos} {tb : VS} {ts : Addr → Option Addr → Er → VS}
theorem vs_try (hs : X.stack = X.env :: X.outer) (hf : X.env.frame = some X.env.locals) (hN : X.N.Nodup) (hi : X.N[i]? = some n) (hln : X.env.kindOf n = some .local) (T : ErrT X.K X.mg b names x) (hg : Gl X x) (tk : Takes X Wout)
    (hb : ∀ (W : WX) (pn : List (Addr × Obj)) (xe : Value → Shared → Prop), Takes (X.tr pn xe) W → PassesOwn (model X.prog X.w) X.A X.env xe → VSs (X.tr pn xe) b W body tb)
    (hsu : ∀ (a : Addr) (oe : Obj) (er : Er) (d : Option Addr) (pn : List (Addr × Obj)), Zc (.ref (b.cls er.n)) d oe → (∃ vs, oe.data = .fields vs) → VSs (X.suite a ((a, oe) :: pn)) b noW (b₀ :: suite) (ts a d er))
    (hdb : (x == ("__debug__" : Str)) = false := by decide) :
    VSt X b Wout (.Try body [.ExceptHandler (some (.Name x np)) (some n) (b₀ :: suite) pos'] [] [] pos) (sTry i names x tb ts) := by
  obtain ⟨C, hm, hsub⟩ := T.ex
  refine ps_mono (ps_try_as (c := .ref C) (tb := fun W => LS b W tb) (ts := fun a cls d => fun D σ H => ∃ er : Er, cls = .ref (b.cls er.n) ∧ LS b noW (ts a d er) D σ H) hs hf hN hi hln ⟨hg, hdb, .inl hm⟩ tk hb ?_) ?_
  · intro a oe cls d pn hz hfd
    refine ⟨fun pins s σ H D I ⟨er, ec, q⟩ => ?_⟩
    subst ec
    exact (hsu a oe er d pn hz hfd).run pins s σ H D I q
  · rintro D σ H ⟨H0, M, Zo, Z, ρ, De, f, ⟨hiρ, q⟩, l⟩
    refine ⟨H0, M, Zo, Z, ρ, _, f, q, ⟨l.nx, l.rt, l.bk, l.ct, ?_⟩⟩
    rintro c d Z' σ' H' ρ' er f' ⟨ec, rd⟩ ⟨hi', hn, h⟩
    subst ec
    refine ⟨errSub er.n x, (hsub er.n hn).1, fun e a ha => ?_, fun e => ?_⟩
    · rw [if_pos e] at h
      have rp : Rp b Z' H' (.ref a) (.err a d er.n er.fs) := ⟨rfl, rd⟩
      refine ⟨er, rfl, H0, M, Zo, _, _, _, f'.set hi' rp, h a d, ⟨fun Z2 σ2 H2 ρ2 f2 q2 => ?_, l.rt, fun Z2 σ2 H2 ρ2 f2 q2 => ?_, fun Z2 σ2 H2 ρ2 f2 q2 => ?_, fun _ _ _ _ _ _ _ _ _ z => z.elim⟩⟩
      · exact l.nx _ _ _ _ (f2.un q2.1) q2.2
      · exact l.bk _ _ _ _ (f2.un q2.1) q2.2
      · exact l.ct _ _ _ _ (f2.un q2.1) q2.2
    · rw [if_neg (by rw [e]; exact Bool.false_ne_true)] at h
      exact l.ex _ _ _ _ _ _ _ f' ⟨rfl, rd⟩ h
end
end VL
set_option Elab.async false
set_option linter.all false
set_option maxRecDepth 100000
set_option maxHeartbeats 4000000
namespace VL
open PySem PySem.Spec PyProof.Rows L2 HT
abbrev veB : List Value := [.type "ValueError", .type "Exception", .type "BaseException", .type "object"]
/-! ### raise -/
/-- an error without fields can be made -/
structure Mk0 (K : PySem.W.Frag) (mg : Str → Option Value) (b : Bg) (n : Str) : Prop where
  g : mg n = some (.ref (b.cls n))
  q : PySem.W.excIn K (b.cls n) veB "ValueError.__new__" = true
  k : PySem.W.keepIn K (.ref (b.cls n)) = true
  s : PySem.W.subIn K (.ref (b.cls n)) (.type "BaseException") = some true
  t : PySem.W.typeIn K (.ref (b.cls n)) = some (.type "type")
theorem pmk_own0 {X : Cx} {C : Addr} {bmB : List Value} {B newId initId : String} {x : Str} {p pos : Pos} (F : ExcBaseFacts B newId initId bmB) (q : PySem.W.excIn X.K C bmB newId = true) (gC : X.mg x = some (.ref C))
    (kC : PySem.W.keepIn X.K (.ref C) = true) (r : Raises X (.ref C)) (hg : Gl X x) (hdb : (x == ("__debug__" : Str)) = false := by decide) :
    PMk X (.Call (.Name x p) [] [] pos) (fun _ H Q => Q (.ref C) none H) := by
  intro pins s σ H Q I h
  refine wpAny_Call_Name_kw (ld_glob I hg gC (PySem.W.callWith_K0 I.kIn kC ?_) hdb)
  show wpAny _ _ (call (.ref C) []) _ _ _
  obtain ⟨bm, N, nm, qn, bs, hdct, sn, sub, ab, col, dd, k0, k1, k2, k3, k5, mN, hC, hN, hni, T⟩ := exc_obj I.kIn q
  refine wpAny_call_exc_subT F T hC hN hni (fun h' e hm => ?_) (Nat.zero_le _)
  exact mk_of I hm r h (I.hok.gone hm.new)
@[simp] def sRaise0 (n : Str) : VS := fun ρ De => De.ex ρ ⟨n, []⟩
@[simp] def sRaise1 (n f : Str) (t : VT) : VS := fun ρ De => t ρ (fun d => ∃ p, d = .py p ∧ De.ex ρ ⟨n, [(f, p)]⟩) (De.ex ρ)
/-- what an error's own __init__ promises -/
def spInit (K : PySem.W.Frag) (f : Str) : Sp := fun vs H Q _ => ∃ (a C : Addr) (v : V), vs = [.ref a, v] ∧ OexC K C ∧ PySem.W.findIn K (.ref C) f = some none ∧ H a = some (exo a C none) ∧ ∀ dx, H dx = none → dx ≠ a → Q .non (upd (upd H dx (exd dx [(f, v)])) a (exo a C (some dx)))
theorem ok_init {P : Program} {w : World} {K : PySem.W.Frag} {mg : Str → Option Value} {base : Heap} {x qual f prm : Str} {st : Stmt} {fa : Addr} {fd : FuncData} {p1 p2 p3 p4 : Pos} (F : Fun K x qual st fa fd) (Sc : FnScope ["self", prm] ["self", prm] (defScope st))
    (hst : defBody st = [.Assign [.Attribute (.Name "self" p1) f p2] (.Name prm p3) p4]) (h0 : (defScope st).names.lookup ("self" : Str) = some .local) (h1 : (defScope st).names.lookup prm = some .local) (hd : (prm == ("__debug__" : Str)) = false) (hcd : (prm == ("__classdict__" : Str)) = false) :
    FnOk P w K mg base (L2.CX P w) 1 fa fd ["self", prm] (spInit K f) := by
  refine F.okX Sc (fun vs H Q E ⟨a, C, v, e, _⟩ => by rw [e]; rfl) fun cdv A outer s H vs Q E hr h => ?_
  rw [hst]
  refine ⟨_, pss_one (ps_ost (pe_var (i := 0) rfl (.inl h0)) (pe_var (i := 1) rfl (.inl h1) hd hcd)), ?_⟩
  obtain ⟨a, C, v, rfl, T, hno, e, q⟩ := h
  exact ⟨v, rfl, .ref a, rfl, a, C, rfl, T, hno, .inl ⟨e, fun dx hd hne => q dx hd hne⟩⟩
/-- an error with the field f can be made -/
structure Mk1 (P : Program) (w : World) (K : PySem.W.Frag) (mg : Str → Option Value) (base : Heap) (b : Bg) (n f : Str) where
  g : mg n = some (.ref (b.cls n))
  T : OexC K (b.cls n)
  hno : PySem.W.findIn K (.ref (b.cls n)) f = some none
  fI : Addr
  fd : FuncData
  prm : Str
  iC : PySem.W.findIn K (.ref (b.cls n)) "__init__" = some (some (.ref fI))
  tI : PySem.W.typeIn K (.ref fI) = some (.type "function")
  F : FnOk P w K mg base (L2.CX P w) 1 fI fd ["self", prm] (spInit K f)
  bd : Binds K fd ["self", prm] []
section
variable {X : Cx} {b : Bg} {W : WX} {n f : Str} {e : Expr} {t : VT} {p pos pos2 : Pos} {j : Nat}
theorem vs_raise0 (M : Mk0 X.K X.mg b n) (hc : X.calm = true) (tk : Takes X W) (hg : Gl X n) (hdb : (n == ("__debug__" : Str)) = false := by decide) : VSt X b W (.Raise (some (.Call (.Name n p) [] [] pos)) none pos2) (sRaise0 n) :=
  ps_mono (ps_raise hc tk (pmk_own0 PySem.F.excBase_ValueError M.q M.g M.k (raises_own M.s M.t) hg hdb)) fun D σ H ⟨H0, Mo, Zo, Z, ρ, De, fo, q, l⟩ => l.ex _ _ _ _ _ _ ⟨n, []⟩ fo ⟨rfl, .inl ⟨rfl, rfl⟩⟩ q
theorem vs_raise1 (M : Mk1 X.prog X.w X.K X.mg X.base b n f) (hr : Room j X.A) (hc : X.calm = true) (tk : Takes X W) (hg : Gl X n) (he : VE X b W e t) (hj : 2 ≤ j := by decide) (hdb : (n == ("__debug__" : Str)) = false := by decide)
    (hs : starEach [e] X.env = (false, eval e X.env) :: starEach [] X.env := by rfl) (hpl : (backTo pos (starEach [] X.env)).any (·.1) = false := by rfl) :
    VSt X b W (.Raise (some (.Call (.Name n p) [e] [] pos)) none pos2) (sRaise1 n f t) :=
  ps_mono (ps_raise hc tk (pmk_oex (k := 1) (ds := []) (dvs := []) M.T M.iC M.tI M.F (hr.mono hj) M.bd .nil passL hg M.g (va_cons he va_nil hs) hdb hs hpl)) fun D σ H ⟨H0, Mo, Zo, Z, ρ, De, fo, q, l⟩ => by
    refine ⟨Zo, Z, ρ, fun ds => match ds with | [d] => ∃ p, d = .py p ∧ De.ex ρ ⟨n, [(f, p)]⟩ | _ => False, De.ex ρ, fo.v, q, fun vs H1 ds x1 g1 r1 q1 => ?_, l.er fo⟩
    match ds, q1, r1 with
    | [_], ⟨p, rfl, q1⟩, .cons (v := v) rv .nil =>
      refine ⟨by show 1 ≤ 1000; omega, fun a ha => ⟨a, b.cls n, v, rfl, M.T, M.hno, upd_same, fun dx hd hne => ⟨rfl, dx, [(f, v)], upd_same, ?_, ?_, ?_⟩⟩⟩
      · rw [upd_ne hne]; exact upd_same
      · rw [upd_ne hne] at hd; exact hd
      · have hd1 : H1 dx = none := by rw [upd_ne hne] at hd; exact hd
        generalize hHf : upd (del (upd (upd (upd H1 a (exo a (b.cls n) none)) dx (exd dx [(f, v)])) a (exo a (b.cls n) (some dx))) a) dx (.xd [(f, v)]) = Hf
        have at_ : ∀ c, c ≠ a → c ≠ dx → Hf c = H1 c := fun c c1 c2 => by rw [← hHf, upd_ne c2, del_ne c1, upd_ne c1, upd_ne c2, upd_ne c1]
        have hfd : Hf dx = some (.xd [(f, v)]) := by rw [← hHf]; exact upd_same
        have x2 : Ex b H1 Hf := fun c o hc _ => by
          rw [at_ c (fun z => by rw [z, ha] at hc; cases hc) (fun z => by rw [z, hd1] at hc; cases hc)]
          exact hc
        have g2 : b.G Hf := b.loc H1 Hf (fun c hc => at_ c (fun z => b.dom H1 c g1 hc (by rw [z]; exact ha)) (fun z => b.dom H1 c g1 hc (by rw [z]; exact hd1))) g1
        have f1 := fo.ex x1 g1
        have f2 := f1.ex x2 g2
        refine l.ex _ _ _ _ _ _ ⟨n, [(f, _)]⟩ f2 ⟨rfl, .inr ⟨dx, _, rfl, hfd, f1.v.fresh hd1, .cons (f1.v.rq x2 rv) .nil⟩⟩ q1
end
end VL
set_option Elab.async false
set_option linter.all false
set_option maxRecDepth 100000
set_option maxHeartbeats 4000000
namespace VL
open PySem PySem.Spec PyProof.Rows L2 HT
/-! ### in an except suite: what is asked of the error -/
/-- the error's field f -/
@[simp] def vErrF (a : Addr) (d : Option Addr) (er : Er) (i : Nat) (nf : List Str) (f : Str) : VT := fun ρ Q _ => ρ[i]? = some (.shr (.err a d er.n er.fs)) ∧ er.n ∈ nf ∧ ∃ p, er.fs.lookup f = some p ∧ Q (.py p)
/-- isinstance(error, x) -/
@[simp] def vErrI (a : Addr) (d : Option Addr) (er : Er) (i : Nat) (names : List Str) (x : Str) : VT := fun ρ Q _ => ρ[i]? = some (.shr (.err a d er.n er.fs)) ∧ er.n ∈ names ∧ Q (.py (.bool (errSub er.n x)))
/-- isinstance(error, (x, ..)) -/
@[simp] def vErrIT (a : Addr) (d : Option Addr) (er : Er) (i : Nat) (names xs : List Str) : VT := fun ρ Q _ => ρ[i]? = some (.shr (.err a d er.n er.fs)) ∧ er.n ∈ names ∧ Q (.py (.bool (xs.any fun x => errSub er.n x)))
/-- what is asked of an error's class so that a field is read -/
structure FldC (K : PySem.W.Frag) (C : Addr) (f : Str) : Prop where
  x : XfC K C
  no : PySem.W.findIn K (.ref C) f = some none
section
variable {X : Cx} {b : Bg} {W : WX} {a : Addr} {oe : Obj} {er : Er} {d : Option Addr} {pn : List (Addr × Obj)} {i : Nat} {names nf xs : List Str} {x f nm : Str} {pos p p1 p2 : Pos} {e e2 : Expr} {es : List Expr}
theorem ve_errF (F : ∀ n ∈ nf, FldC X.K (b.cls n) f) (hz : Zc (.ref (b.cls er.n)) d oe) (hf : ∃ vs, oe.data = .fields vs) (he : PE (X.suite a ((a, oe) :: pn)) e (tVar i)) (hb : attributeBase e f X.env (eval e X.env) = eval e X.env := by rfl) :
    VE (X.suite a ((a, oe) :: pn)) b W (.Attribute e f pos) (vErrF a d er i nf f) := by
  refine ⟨fun pins s σ H Q I ⟨Zo, Z, ρ, Qd, Ed, v, ⟨hρ, hn, q, hq, k⟩, l, _⟩ => ?_⟩
  obtain ⟨u, hu, ru⟩ := v.shr i _ hρ
  obtain ⟨eu, rd⟩ := ru
  subst eu
  rcases rd with ⟨_, hfs⟩ | ⟨dd, xs, ed, hd, nz, rf⟩
  · rw [hfs] at hq; cases hq
  · obtain ⟨w, hw, rw'⟩ := rf.look hq
    have F' := F er.n hn
    exact (pe_xf (d := d) F'.x F'.no hz hf he hb).run pins s σ H Q I ⟨.ref a, hu, rfl, rfl, dd, xs, w, ed, hd, hw, l w H (.py q) Ex.refl v.g rw' k⟩
theorem inst_of {s : Shared} {D : Addr} (ha : s.heap.get? a = some oe) (hc : oe.cls = .ref D) (hd : oe.dict = d) (hdat : ∃ vs, oe.data = .fields vs) (ho : ∀ dd, d = some dd → ∃ o, s.heap.get? dd = some o) : ∃ od, PySem.W.InstAt s.heap a oe D od := by
  obtain ⟨vs, hv⟩ := hdat
  cases d with
  | none => exact ⟨none, ha, hc, by unfold PySem.W.notCls; rw [hv] <;> rfl, by rw [hd]; trivial⟩
  | some dd =>
    obtain ⟨o, e⟩ := ho dd rfl
    exact ⟨some o, ha, hc, by unfold PySem.W.notCls; rw [hv] <;> rfl, by rw [hd]; exact e⟩
/-- isinstance(e, c), e the exception that the suite holds, its dict d -/
def rIsA (K : PySem.W.Frag) (D a : Addr) (d : Option Addr) : List V → Hp → VK → Prop := fun xs H Q => ∃ (c : V) (cv : Value) (k : Bool), xs = [.ref a, c] ∧ (∀ u, RelV c u → u = cv) ∧ PySem.W.kitOne K (.ref D) cv = some k ∧ (∀ dd, d = some dd → ∃ fs, H dd = some (.xd fs)) ∧ Q (.bl k) H
def rIsAT (K : PySem.W.Frag) (D a : Addr) (d : Option Addr) : List V → Hp → VK → Prop := fun xs H Q => ∃ (tp : Addr) (cs : List Addr) (k : Bool), xs = [.ref a, .ref tp] ∧ H tp = some (.tup (cs.map V.ref)) ∧ PySem.W.kitAny K (.ref D) (cs.map Value.ref) = some k ∧ (∀ dd, d = some dd → ∃ fs, H dd = some (.xd fs)) ∧ Q (.bl k) H
theorem xd_at {pins : List (Addr × Obj)} {σ : L2.St} {H : Hp} {s : Shared} (I : Inv X pins σ H s) {dd : Addr} {fs : List (Str × V)} (e : H dd = some (.xd fs)) : ∃ o, s.heap.get? dd = some o := by
  have hx : ObjOk X.prog X.w H s.heap dd (.xd fs) := I.hok dd _ e
  obtain ⟨mA, ⟨o, _, _, ho, _⟩, _⟩ := hx
  exact ⟨o, ho⟩
theorem call_isA {D : Addr} (C : ErrC X.K D) (hz : Zc (.ref D) d oe) (hf : ∃ vs, oe.data = .fields vs) : CallR (X.suite a ((a, oe) :: pn)) (.builtin "isinstance") (rIsA X.K D a d) := by
  intro pins s σ H xs us Q I r ⟨c, cv, k, ex, hcv, e, hd, q⟩
  subst ex
  obtain ⟨u1, u2, rfl, r1, r2⟩ := vals2 r
  cases r1
  have ec := hcv _ r2
  subst ec
  obtain ⟨hget, _⟩ := I.pin (a, oe) (List.mem_append.mpr (.inl List.mem_cons_self))
  exact PySem.W.kia_one (PySem.W.kitx_excA C.hg C.hk C.hs C.hd C.ha C.hn C.ht C.hm) I.kIn (inst_of hget hz.1 hz.2 hf fun dd ed => by obtain ⟨fs, e⟩ := hd dd ed; exact xd_at I e) e (fun z => nomatch z) fun tk => ⟨.bl k, H, I.kept (t' := tk) fun _ _ z => z, rfl, q⟩
theorem refs_vals : ∀ {cs : List Addr} {us : List Value}, Vals (cs.map V.ref) us → us = cs.map Value.ref
  | [], _, .nil => rfl
  | c :: cs, _, .cons r t => by cases r; rw [refs_vals t]; rfl
theorem call_isAT {D : Addr} (C : ErrC X.K D) (hz : Zc (.ref D) d oe) (hf : ∃ vs, oe.data = .fields vs) : CallR (X.suite a ((a, oe) :: pn)) (.builtin "isinstance") (rIsAT X.K D a d) := by
  intro pins s σ H xs us Q I r ⟨tp, cs, k, ex, hT, e, hd, q⟩
  subst ex
  obtain ⟨u1, u2, rfl, r1, r2⟩ := vals2 r
  cases r1
  cases (show u2 = Value.ref tp from r2)
  obtain ⟨hget, _⟩ := I.pin (a, oe) (List.mem_append.mpr (.inl List.mem_cons_self))
  obtain ⟨_, its, rv, o, h1, h2, n, h3⟩ := (show ObjOk X.prog X.w H s.heap tp (.tup (cs.map V.ref)) from I.hok tp _ hT)
  have e3 := refs_vals rv
  subst e3
  obtain ⟨oc, od, dt, sl⟩ := o
  simp only at h2 h3
  subst h2 h3
  exact PySem.W.kia_tup (PySem.W.kitx_excA C.hg C.hk C.hs C.hd C.ha C.hn C.ht C.hm) I.kIn (inst_of hget hz.1 hz.2 hf fun dd ed => by obtain ⟨fs, e⟩ := hd dd ed; exact xd_at I e) h1 e (fun z => nomatch z) fun tk => ⟨.bl k, H, I.tok tk, rfl, q⟩
/-- the error's own dict, as it lies -/
theorem err_dict {Z : Addr → Prop} {H : Hp} {u : V} {n : Str} {fs : List (Str × PyData)} (r : Rp b Z H u (.err a d n fs)) : u = .ref a ∧ ∀ dd, d = some dd → ∃ xs, H dd = some (.xd xs) := by
  obtain ⟨e, h⟩ := r
  refine ⟨e, fun dd ed => ?_⟩
  rcases h with ⟨h, _⟩ | ⟨dd', xs, e1, h1, _⟩
  · rw [h] at ed; cases ed
  · rw [e1] at ed; cases ed; exact ⟨xs, h1⟩
theorem ve_errI (T : ErrT X.K X.mg b names x) (C : ∀ n ∈ names, ErrC X.K (b.cls n)) (hz : Zc (.ref (b.cls er.n)) d oe) (hf : ∃ vs, oe.data = .fields vs) (hg : Gl X "isinstance") (hm : X.mg "isinstance" = none) (he : PE (X.suite a ((a, oe) :: pn)) e (tVar i)) (hgx : Gl X x)
    (hdx : (x == ("__debug__" : Str)) = false := by decide) (hs : starEach [e, .Name x p1] X.env = (false, eval e X.env) :: starEach [.Name x p1] X.env := by rfl) (hs2 : starEach [.Name x p1] X.env = (false, eval (.Name x p1) X.env) :: starEach [] X.env := by rfl) (hpl : (backTo pos (starEach [.Name x p1] X.env)).any (·.1) = false := by rfl) :
    VE (X.suite a ((a, oe) :: pn)) b W (.Call (.Name "isinstance" p) [e, .Name x p1] [] pos) (vErrI a d er i names x) := by
  refine ⟨fun pins s σ H Q I ⟨Zo, Z, ρ, Qd, Ed, v, ⟨hρ, hn, k⟩, l, _⟩ => ?_⟩
  obtain ⟨Cx, hmx, hsub⟩ := T.ex
  obtain ⟨u, hu, ru⟩ := v.shr i _ hρ
  obtain ⟨eu, hdd⟩ := err_dict ru
  subst eu
  refine (pe_callB (X := X.suite a ((a, oe) :: pn)) (call_isA (C er.n hn) hz hf) hg hm bb_isi (pa_cons he (pa_cons (pe_glob (v := .ref Cx) hgx hmx rfl hdx) pa_nil hs2) hs) (by decide) (by decide) hs hpl).run pins s σ H Q I ?_
  exact ⟨.ref a, hu, .ref Cx, .ref Cx, errSub er.n x, rfl, fun w hw => hw, (hsub er.n hn).2, hdd, l (.bl _) H (.py (.bool _)) Ex.refl v.g (Rq.bl _) k⟩
/-- ValueError -/
theorem ve_errV (T : ∀ n ∈ names, PySem.W.kitOne X.K (.ref (b.cls n)) (.type "ValueError") = some true) (C : ∀ n ∈ names, ErrC X.K (b.cls n)) (hz : Zc (.ref (b.cls er.n)) d oe) (hf : ∃ vs, oe.data = .fields vs) (hg : Gl X "isinstance") (hm : X.mg "isinstance" = none) (he : PE (X.suite a ((a, oe) :: pn)) e (tVar i)) (hgx : Gl X "ValueError") (hmx : X.mg "ValueError" = none)
    (hs : starEach [e, .Name "ValueError" p1] X.env = (false, eval e X.env) :: starEach [.Name "ValueError" p1] X.env := by rfl) (hs2 : starEach [.Name "ValueError" p1] X.env = (false, eval (.Name "ValueError" p1) X.env) :: starEach [] X.env := by rfl) (hpl : (backTo pos (starEach [.Name "ValueError" p1] X.env)).any (·.1) = false := by rfl) :
    VE (X.suite a ((a, oe) :: pn)) b W (.Call (.Name "isinstance" p) [e, .Name "ValueError" p1] [] pos) (vErrI a d er i names "ValueError") := by
  refine ⟨fun pins s σ H Q I ⟨Zo, Z, ρ, Qd, Ed, v, ⟨hρ, hn, k⟩, l, _⟩ => ?_⟩
  obtain ⟨u, hu, ru⟩ := v.shr i _ hρ
  obtain ⟨eu, hdd⟩ := err_dict ru
  subst eu
  have ek : errSub er.n "ValueError" = true := by
    unfold errSub
    have : ((("ValueError" : Str)) == (("ValueError" : Str))) = true := beq_self_eq_true _
    rw [this, Bool.or_true]
  rw [ek] at k
  refine (pe_callB (X := X.suite a ((a, oe) :: pn)) (call_isA (C er.n hn) hz hf) hg hm bb_isi (pa_cons he (pa_cons (pe_bltn (v := .ty "ValueError") hgx hmx PyProof.Rows.Boot.«ValueError» rfl) pa_nil hs2) hs) (by decide) (by decide) hs hpl).run pins s σ H Q I ?_
  exact ⟨.ref a, hu, .ty "ValueError", .type "ValueError", true, rfl, fun w hw => hw, T er.n hn, hdd, l (.bl _) H (.py (.bool _)) Ex.refl v.g (Rq.bl _) k⟩
end
def tCs (cs : List Addr) : TA := fun _ H Q => Q (cs.map V.ref) H
/-- a row of classes -/
def PNs (X : Cx) (b : Bg) (names : List Str) (es : List Expr) (xs : List Str) : Prop := ∃ cs : List Addr, cs.length = xs.length ∧ (∀ n ∈ names, PySem.W.kitAny X.K (.ref (b.cls n)) (cs.map Value.ref) = some (xs.any fun x => errSub n x)) ∧ PA X es (tCs cs)
section
variable {X : Cx} {b : Bg} {W : WX} {a : Addr} {oe : Obj} {er : Er} {d : Option Addr} {pn : List (Addr × Obj)} {i : Nat} {names nf xs : List Str} {x f nm : Str} {pos p p1 p2 : Pos} {e e2 : Expr} {es : List Expr} {k1 : Nat}
theorem pns_nil : PNs X b names [] [] := ⟨[], rfl, fun _ _ => rfl, pa_mono pa_nil fun _ _ _ q => q⟩
theorem pns_cons (T : ErrT X.K X.mg b names x) (hgx : Gl X x) (h : PNs X b names es xs) (hdx : (x == ("__debug__" : Str)) = false := by decide) (hs : starEach (.Name x p1 :: es) X.env = (false, eval (.Name x p1) X.env) :: starEach es X.env := by rfl) :
    PNs X b names (.Name x p1 :: es) (x :: xs) := by
  obtain ⟨C, hm, hsub⟩ := T.ex
  obtain ⟨cs, hl, hk, hp⟩ := h
  refine ⟨C :: cs, by simp [hl], fun n hn => ?_, pa_mono (pa_cons (pe_glob (v := .ref C) hgx hm rfl hdx) hp hs) fun _ _ _ q => q⟩
  rw [List.map_cons, PySem.W.kitAny, (hsub n hn).2, List.any_cons]
  cases errSub n x with
  | true => rfl
  | false => rw [Bool.false_or]; exact hk n hn
theorem ve_errIT (P : PNs (X.suite a ((a, oe) :: pn)) b names es xs) (C : ∀ n ∈ names, ErrC X.K (b.cls n)) (hz : Zc (.ref (b.cls er.n)) d oe) (hf : ∃ vs, oe.data = .fields vs) (hg : Gl X "isinstance") (hm : X.mg "isinstance" = none) (he : PE (X.suite a ((a, oe) :: pn)) e (tVar i)) (hl : xs.length ≤ 1000)
    (hs : starEach [e, .Tuple es k1 p1] X.env = (false, eval e X.env) :: starEach [.Tuple es k1 p1] X.env := by rfl) (hs2 : starEach [.Tuple es k1 p1] X.env = (false, eval (.Tuple es k1 p1) X.env) :: starEach [] X.env := by rfl) (hpl : (backTo pos (starEach [.Tuple es k1 p1] X.env)).any (·.1) = false := by rfl) :
    VE (X.suite a ((a, oe) :: pn)) b W (.Call (.Name "isinstance" p) [e, .Tuple es k1 p1] [] pos) (vErrIT a d er i names xs) := by
  refine ⟨fun pins s σ H Q I ⟨Zo, Z, ρ, Qd, Ed, v, ⟨hρ, hn, k⟩, l, _⟩ => ?_⟩
  obtain ⟨cs, hlc, hk, hp⟩ := P
  obtain ⟨u, hu, ru⟩ := v.shr i _ hρ
  obtain ⟨eu, hdd⟩ := err_dict ru
  subst eu
  refine (pe_callB (X := X.suite a ((a, oe) :: pn)) (call_isAT (C er.n hn) hz hf) hg hm bb_isi (pa_cons he (pa_cons (pe_tup hp) pa_nil hs2) hs) (by decide) (by decide) hs hpl).run pins s σ H Q I ?_
  refine ⟨.ref a, hu, by rw [List.length_map, hlc, sizeLine_eq]; omega, fun tp htp => ⟨tp, cs, _, rfl, upd_same, hk er.n hn, fun dd ed => ?_, l (.bl _) _ (.py (.bool _)) (Ex.new htp) (Bg.new v.g htp) (Rq.bl _) k⟩⟩
  obtain ⟨xs, hx⟩ := hdd dd ed
  exact ⟨xs, by rw [upd_ne (ne_of_none hx htp)]; exact hx⟩
end
end VL
set_option Elab.async false
set_option linter.all false
set_option maxRecDepth 100000
set_option maxHeartbeats 4000000
namespace VL
open PySem PySem.Spec PyProof.Rows L2 HT
/-! ### the facts of the errors' classes, for the join -/
/-- what every error's class that is raised must say -/
structure RaiB (K : PySem.W.Frag) (C : Addr) (n : Str) : Prop where
  ns : PySem.W.nsIn K mainGlobals n = some (some (.ref C))
  kC : PySem.W.keepIn K (.ref C) = true
  tyC : PySem.W.typeIn K (.ref C) = some (.type "type")
  sf : PySem.W.selfFirst K C = true
  ve : PySem.W.subIn K (.ref C) (.type "ValueError") = some true
  ec : ErrC K C
theorem raiB {K : PySem.W.Frag} {C : Addr} {n : Str} (a1 : PySem.W.nsIn K mainGlobals n = some (some (.ref C))) (a2 : PySem.W.keepIn K (.ref C) = true) (a3 : PySem.W.typeIn K (.ref C) = some (.type "type")) (a4 : PySem.W.selfFirst K C = true)
    (a5 : PySem.W.subIn K (.ref C) (.type "ValueError") = some true)
    (b1 : PySem.W.findIn K (.ref C) "__getattribute__" = some (some (.builtin "BaseException.__getattribute__"))) (b2 : PySem.W.findIn K (.ref C) "__getattr__" = some none) (b3 : PySem.W.subIn K (.ref C) (.type "BaseException") = some true) (b4 : PySem.W.hasDictIn K C = true)
    (b5 : PySem.W.findIn K (.ref C) "__class__" = some (some (.builtin "object.__class__"))) (b6 : PySem.W.specialIn K (.builtin "object.__class__") "__get__" = some (some (.builtin "getset_descriptor.__get__"))) (b7 : PySem.W.takesIn K (.builtin "object.__class__") = some true) (b8 : PySem.W.mroIn K C (.type "object") = some true) : RaiB K C n := ⟨a1, a2, a3, a4, a5, ⟨b1, b2, b3, b4, b5, b6, b7, b8⟩⟩
structure Rai0 (K : PySem.W.Frag) (n : Str) : Prop where
  ex : ∃ C : Addr, RaiB K C n ∧ PySem.W.excIn K C veB "ValueError.__new__" = true
theorem rai0 {K : PySem.W.Frag} {C : Addr} {n : Str} (r : RaiB K C n) (q : PySem.W.excIn K C veB "ValueError.__new__" = true) : Rai0 K n := ⟨C, r, q⟩
structure RaiI (K : PySem.W.Frag) (C : Addr) (n qual f : Str) (st : Stmt) : Prop where
  b : RaiB K C n
  T : OexC K C
  no : PySem.W.findIn K (.ref C) f = some none
  ini : ∃ (fI : Addr) (fd : FuncData), Fun K "__init__" qual st fI fd ∧ PySem.W.findIn K (.ref C) "__init__" = some (some (.ref fI)) ∧ PySem.W.typeIn K (.ref fI) = some (.type "function")
structure Rai1 (K : PySem.W.Frag) (n qual f : Str) (st : Stmt) : Prop where
  ex : ∃ C : Addr, RaiI K C n qual f st
theorem rai1 {K : PySem.W.Frag} {C fI : Addr} {n qual f : Str} {st : Stmt} {oc kV doc pm cdv ct : Value} {od an : Option Addr} {osl : Array (Option Value)} {nm q : Str} {N : Addr} {bs bm : List Value} {sn : List Str} {sub : List Value} {ab : Bool} {col : Option Bool} {dd : Option Addr} {k0 k1 k2 k3 k5 : Option Value} (r : RaiB K C n)
    (c1 : K.lookup C = some (excClassObj nm q C N bs bm true sn sub ab col dd k0 k1 k2 k3 k5 "ValueError.__new__")) (c2 : PySem.HandSPX.refsVE bm = true) (c3 : PySem.W.findIn K (.ref C) "__setattr__" = some (some (.builtin "object.__setattr__"))) (c4 : PySem.W.findIn K (.ref C) f = some none)
    (d1 : PySem.W.findIn K (.ref C) "__init__" = some (some (.ref fI))) (d2 : PySem.W.typeIn K (.ref fI) = some (.type "function")) (d3 : K.lookup fI = some ⟨oc, od, .func (PySem.W.fnOf "__init__" qual (defArgs st) (defBody st) (defScope st) .none kV doc pm an cdv ct), osl⟩) (d4 : PySem.W.codeIn K cdv qual = true) (d5 : PySem.W.keepIn K (.ref fI) = true) : Rai1 K n qual f st :=
  ⟨C, r, ⟨⟨nm, q, N, bs, bm, sn, sub, ab, col, dd, k0, k1, k2, k3, k5, c1, c2⟩, c3, r.ec.hs, r.tyC, r.kC⟩, c4, fI, _, fun_mk d3 d4 d5, d1, d2⟩
/-- a class that is asked for -/
structure TstK (K : PySem.W.Frag) (x : Str) : Prop where
  ex : ∃ C : Addr, PySem.W.nsIn K mainGlobals x = some (some (.ref C)) ∧ PySem.W.isClsIn K C = true ∧ PySem.W.typeIn K (.ref C) = some (.type "type") ∧ PySem.W.subIn K (.ref C) (.type "BaseException") = some true
theorem tstK {K : PySem.W.Frag} {C : Addr} {x : Str} (a1 : PySem.W.nsIn K mainGlobals x = some (some (.ref C))) (a2 : PySem.W.isClsIn K C = true) (a3 : PySem.W.typeIn K (.ref C) = some (.type "type")) (a4 : PySem.W.subIn K (.ref C) (.type "BaseException") = some true) : TstK K x := ⟨C, a1, a2, a3, a4⟩
/-- n beside x -/
structure SubK (K : PySem.W.Frag) (n x : Str) : Prop where
  ex : ∃ C D : Addr, PySem.W.nsIn K mainGlobals n = some (some (.ref C)) ∧ PySem.W.nsIn K mainGlobals x = some (some (.ref D)) ∧ PySem.W.subIn K (.ref C) (.ref D) = some (errSub n x)
theorem subK {K : PySem.W.Frag} {C D : Addr} {n x : Str} {k : Bool} (a1 : PySem.W.nsIn K mainGlobals n = some (some (.ref C))) (a2 : PySem.W.nsIn K mainGlobals x = some (some (.ref D))) (a3 : PySem.W.subIn K (.ref C) (.ref D) = some k) (a4 : errSub n x = k) : SubK K n x := ⟨C, D, a1, a2, by rw [a4]; exact a3⟩
section
variable {K : PySem.W.Frag} {h : Heap} {mg : Str → Option Value} {b : Bg} {n x qual f prm : Str} {C : Addr} {st : Stmt} {names : List Str}
theorem self_sub (sf : PySem.W.selfFirst K C = true) : PySem.W.subIn K (.ref C) (.ref C) = some true := by
  unfold PySem.W.selfFirst at sf
  show PySem.W.mroIn K C (.ref C) = some true
  unfold PySem.W.mroIn
  cases hc : PySem.W.clsIn K C with
  | none => rw [hc] at sf; cases sf
  | some cd =>
    rw [hc] at sf
    have e : cd.mro.head? = some (.ref C) := by simpa using sf
    cases hm : cd.mro with
    | nil => rw [hm] at e; cases e
    | cons v r =>
      rw [hm] at e
      have ev : v = .ref C := by simpa using e
      subst ev
      simp [hm]
theorem kit_of_sub {D : Addr} {k : Bool} (sf : PySem.W.selfFirst K C = true) (hs : PySem.W.subIn K (.ref C) (.ref D) = some k) (hi : PySem.W.isClsIn K D = true) (ht : PySem.W.typeIn K (.ref D) = some (.type "type")) : PySem.W.kitOne K (.ref C) (.ref D) = some k := by
  unfold PySem.W.kitOne
  by_cases e : C = D
  · subst e
    rw [if_pos (by simp)]
    rw [self_sub sf] at hs
    exact hs
  · rw [if_neg (by simpa using e)]
    unfold PySem.W.kitCls
    have h1 : (PySem.W.clsIn K D).isSome = true := hi
    have h2 : (PySem.W.typeIn K (.ref D) == some (.type "type")) = true := by rw [ht]; simp
    simp only [h1, h2, Bool.and_self, if_true]
    exact hs
theorem exm_of_sub {D : Addr} {k : Bool} (hs : PySem.W.subIn K (.ref C) (.ref D) = some k) (hi : PySem.W.isClsIn K D = true) (ht : PySem.W.typeIn K (.ref D) = some (.type "type")) (hb : PySem.W.subIn K (.ref D) (.type "BaseException") = some true) : PySem.W.exmOne K (.ref C) (.ref D) = some k := by
  have e1 : (PySem.W.subIn K (.ref D) (.type "BaseException") == some true) = true := by rw [hb] <;> rfl
  have e2 : ((PySem.W.clsIn K D).isSome && PySem.W.typeIn K (.ref D) == some (.type "type")) = true := by
    have h1 : (PySem.W.clsIn K D).isSome = true := hi
    rw [h1, ht] <;> rfl
  show (if (PySem.W.subIn K (.ref D) (.type "BaseException") == some true) = true then (if ((PySem.W.clsIn K D).isSome && PySem.W.typeIn K (.ref D) == some (.type "type")) = true then PySem.W.subIn K (.ref C) (.ref D) else none) else none) = some k
  rw [if_pos e1, if_pos e2]
  exact hs
theorem errT (X : K.In h) (G : h.Ns mainGlobals mg) (t : TstK K x) (hs : ∀ n ∈ names, SubK K n x ∧ RaiB K (b.cls n) n) : ErrT K mg b names x := by
  obtain ⟨D, h1, h2, h3, h4⟩ := t.ex
  refine ⟨D, PySem.W.mg_of X G h1, fun n hn => ?_⟩
  obtain ⟨⟨C', D', a1, a2, a3⟩, r⟩ := hs n hn
  have e1 : C' = b.cls n := by
    have := a1.symm.trans r.ns
    injection this with this; injection this with this; injection this
  have e2 : D' = D := by
    have := a2.symm.trans h1
    injection this with this; injection this with this; injection this
  rw [e1, e2] at a3
  exact ⟨exm_of_sub a3 h2 h3 h4, kit_of_sub r.sf a3 h2 h3⟩
theorem errV (hs : ∀ n ∈ names, RaiB K (b.cls n) n) : ∀ n ∈ names, PySem.W.kitOne K (.ref (b.cls n)) (.type "ValueError") = some true := fun n hn => by
  have r := hs n hn
  unfold PySem.W.kitOne
  rw [if_neg (by simp)]
  unfold PySem.W.kitCls
  have : PySem.W.kitMeta "ValueError" = true := by decide +kernel
  simp only [this, if_true]
  exact r.ve
theorem RaiB.mk0 (r : RaiB K (b.cls n) n) (q : PySem.W.excIn K (b.cls n) veB "ValueError.__new__" = true) (X : K.In h) (G : h.Ns mainGlobals mg) : Mk0 K mg b n := ⟨PySem.W.mg_of X G r.ns, q, r.kC, r.ec.hs, r.tyC⟩
theorem RaiI.fld (r : RaiI K (b.cls n) n qual f st) : FldC K (b.cls n) f := ⟨⟨r.b.ec.hg, r.b.ec.hk, r.b.ec.hs, r.b.ec.hd⟩, r.no⟩
theorem RaiI.mk1 {P : Program} {w : World} {base : Heap} (r : RaiI K (b.cls n) n qual f st) (X : K.In h) (G : h.Ns mainGlobals mg) (wk : ∀ (fa : Addr) (fd : FuncData), Fun K "__init__" qual st fa fd → FnOk P w K mg base (L2.CX P w) 1 fa fd ["self", prm] (spInit K f))
    (bd : ∀ (kV doc pm : Value) (an : Option Addr) (cdv ct : Value) (us : List Value), us.length = (["self", prm] : List Str).length → bindArgs (PySem.W.fnOf "__init__" qual (defArgs st) (defBody st) (defScope st) .none kV doc pm an cdv ct) ⟨us, []⟩ = pure ((["self", prm] : List Str).zip us)) : Nonempty (Mk1 P w K mg base b n f) := by
  obtain ⟨fI, fd, F, iC, tI⟩ := r.ini
  exact ⟨⟨PySem.W.mg_of X G r.b.ns, r.T, r.no, fI, fd, prm, iC, tI, wk fI fd F, F.binds bd⟩⟩
end
/-- the classes' addresses by their names -/
def clsOf : List (Str × Addr) → Addr → Str → Addr
  | [], fa, _ => fa
  | (m, C) :: r, fa, n => if m = n then C else clsOf r fa n
theorem clsOf_hd {m : Str} {C fa : Addr} {r : List (Str × Addr)} : clsOf ((m, C) :: r) fa m = C := if_pos rfl
theorem clsOf_tl {m n : Str} {C fa : Addr} {r : List (Str × Addr)} (h : (m == n) = false) : clsOf ((m, C) :: r) fa n = clsOf r fa n := if_neg (by simpa using h)
/-- a def within a class -/
def clsDef (s : Stmt) (i : Nat) : Stmt := match s with
  | .ClassDef _ _ _ b _ _ _ _ _ _ _ => b.getD i (.Pass ⟨0, 0, 0, 0⟩)
  | s => s
end VL
set_option Elab.async false
set_option linter.all false
set_option maxRecDepth 100000
set_option maxHeartbeats 2000000
/-! VL38: defs with one star parameter, called plainly. -/
namespace VL
open PySem PySem.Spec PyProof.Rows L2
@[simp] def svStar (S : SV) : SV := fun ds Q E => ∃ ps, pys ds = some ps ∧ ps.length ≤ sizeLine ∧ S [.py (.tuple ps)] Q E
theorem spStar {b : Bg} {S : SV} {vs : List V} {H : Hp} {Q : VK} {E : XK} (h : spV b (svStar S) vs H Q E) : vs.length ≤ sizeLine ∧ ∀ p, H p = none → ∀ o : Obj, o.dict = none → spV b S [V.ref p] (upd H p (HO.th o vs)) Q E := by
  obtain ⟨Z, ds, Qd, Ed, g, r, ⟨ps, e, hl, s⟩, l, m⟩ := h
  have r2 := r.pyL e
  refine ⟨by rw [r2.length]; exact hl, fun p hp o ho => ⟨Z, [.py (.tuple ps)], Qd, Ed, ⟨g.new hp, g.zb, fun a z => ?_⟩, .cons ?_ .nil, s, fun v H' d x g1 r1 q => l v H' d ((Ex.new hp).trans x) g1 r1 q, fun c y H' er x g1 r1 q => m c y H' er ((Ex.new hp).trans x) g1 r1 q⟩⟩
  · by_cases ea : a = p
    · subst ea; rw [upd_same]; simp
    · rw [upd_ne ea]; exact g.dom a z
  · show Rq Z (upd H p (HO.th o vs)) (.ref p) (.tuple ps)
    exact Rq.tup upd_same ho (g.fresh hp) (r2.up hp)
structure CalR (P : Program) (w : World) (K : PySem.W.Frag) (mg : Str → Option Value) (base : Heap) (b : Bg) (k : Nat) (x : Str) (S : SV) where
  f : Addr
  F : FnR P w K mg base (L2.CX P w) k f (spV b S)
  g : mg x = some (.ref f)
  kp : PySem.W.keepIn K (.ref f) = true
section
variable {CX : CXT} {P : Program} {w : World} {K : PySem.W.Frag} {mg : Str → Option Value} {base : Heap} {k : Nat} {f : Addr} {name qual : Str} {params : Arguments} {body : List Stmt} {scope : Scope} {dV kV doc pm cdv ct oc : Value} {an od : Option Addr}
  {osl : Array (Option Value)} {N ps : List Str} {sp : Sp}
/-- def f(*v): what is given is a new tuple, its very object known -/
theorem fn_starF {pv : Str} (lk : K.lookup f = some ⟨oc, od, .func (PySem.W.fnOf name qual params body scope dV kV doc pm an cdv ct), osl⟩) (hcd : PySem.W.codeIn K cdv qual = true) (S : FnScope N [pv] scope) (hCX : StX.CXUp CX)
    (hb : ∀ rest : List Value, bindArgs (PySem.W.fnOf name qual params body scope dV kV doc pm an cdv ct) ⟨rest, []⟩ = (newTuple rest >>= fun t => pure [(pv, t)]))
    (hbody : ∀ (A : Around) (outer : List Env) (s : Shared) (H : Hp) (vs : List V) (Q : VK) (E : XK), Room k (A.deeper (envOfC qual scope s.heap.objs.size f cdv)) → sp vs H Q E →
      ∃ t, PSs (cxOf CX P w K mg base N qual scope f cdv A outer s H E) body t ∧ t { nx := fun _ H' => Q .non H', rt := Q } (L2.start N vs) H) :
    FnR P w K mg base CX (k + 1) f (fun vs H Q E => vs.length ≤ sizeLine ∧ ∀ p, H p = Option.none → ∀ o : Obj, o.dict = none → sp [V.ref p] (upd H p (HO.th o vs)) Q E) := by
  intro A outer s H us vs Q E hr e0 r ⟨hz, hq⟩
  have hn : H s.heap.objs.size = Option.none := e0.hok.fresh (Nat.le_refl _)
  have hl2 : us.length ≤ sizeLine := by rw [← r.length]; exact hz
  refine StX.run_bnd lk hcd S hr e0 (G := fun xs H2 => ∃ p, H p = Option.none ∧ ∃ o : Obj, o.dict = none ∧ xs = [V.ref p] ∧ H2 = upd H p (HO.th o vs)) (fun A' Ex Q' h => ?_) fun s2 H2 xs ⟨p, hp, o, ho, ex, eH⟩ hr' => ?_
  · rw [hb us]
    refine wpAny_bind (wpAny_newTuple (wpAny_pure ?_) hl2)
    have new : ObjOk P w (upd H s.heap.objs.size (HO.th (tob us) vs)) (s.heap.push (tob us)) s.heap.objs.size (HO.th (tob us) vs) := th_ok hz r (Heap.get?_push_size _ rfl)
    have un := StX.un_laid (fs := frs outer) (s := s) (o := tob us) (u := HO.th (tob us) vs) hn
    exact h _ _ [V.ref s.heap.objs.size] [Value.ref s.heap.objs.size] (StX.env0_laid e0 new) un rfl (fun e s' => hCX outer s H _ _ E e s' un (fun b o q => Heap.get?_push_of_some _ q) rfl) (.cons rfl .nil) rfl ⟨_, hn, tob us, rfl, rfl, rfl⟩
  · subst ex eH
    exact hbody A outer s2 _ _ Q E hr' (hq p hp o ho)
end
section
variable {P : Program} {w : World} {K : PySem.W.Frag} {mg : Str → Option Value} {base : Heap} {b : Bg} {k : Nat} {x qual pv : Str} {st : Stmt} {f : Addr} {fd : FuncData} {N : List Str} {S : SV}
theorem fnStar (F : Fun K x qual st f fd) (Sc : FnScope N [pv] (defScope st)) {t : VS} (hlen : ∀ ds Q E, S ds Q E → ds.length = 1) (hps : 1 ≤ N.length)
    (hb0 : ∀ (kV doc pm : Value) (an : Option Addr) (cdv ct : Value), bindArgs (PySem.W.fnOf x qual (defArgs st) (defBody st) (defScope st) .none kV doc pm an cdv ct) ⟨[], []⟩ = (newTuple [] >>= fun t => pure [(pv, t)]))
    (hb1 : ∀ (kV doc pm : Value) (an : Option Addr) (cdv ct : Value) (r : Value) (rs : List Value), bindArgs (PySem.W.fnOf x qual (defArgs st) (defBody st) (defScope st) .none kV doc pm an cdv ct) ⟨r :: rs, []⟩ = (newTuple (r :: rs) >>= fun t => pure [(pv, t)]))
    (hbody : ∀ (cdv : Value) (A : Around) (outer : List Env) (s : Shared) (H : Hp) (E : XK), Room k (A.deeper (envOfC qual (defScope st) s.heap.objs.size f cdv)) →
      Takes (cxOf (L2.CX P w) P w K mg base N qual (defScope st) f cdv A outer s H E) (WF E) → VSs (cxOf (L2.CX P w) P w K mg base N qual (defScope st) f cdv A outer s H E) b (WF E) (defBody st) t)
    (hlaw : ∀ ds Q E, S ds Q E → t (envOf N.length ds) (fin Q E)) : FnR P w K mg base (L2.CX P w) (k + 1) f (spV b (svStar S)) := by
  have len : ∀ vs H Q E, spV b S vs H Q E → vs.length = 1 := fun vs H Q E ⟨Z, ds, Qd, Ed, g, r, s, _⟩ => r.length.trans (hlen ds Qd Ed s)
  obtain ⟨oc, od, kV, doc, pm, an, cdv, ct, osl, rfl, lk, hcd⟩ := F.ex
  refine (fn_starF (sp := spV b S) lk hcd Sc StX.cxUp (fun rest => ?_) fun A outer s H vs Q E hr h => ⟨_, hbody cdv A outer s H E hr (takes_of rfl rfl rfl rfl), fin_link hlaw (Nat.le_trans (Nat.le_of_eq (len _ _ _ _ h)) hps) h⟩).imp fun vs H Q E h => spStar h
  cases rest with
  | nil => exact hb0 kV doc pm an cdv ct
  | cons r rs => exact hb1 kV doc pm an cdv ct r rs
end
section
variable {X : Cx} {b : Bg} {W : WX} {k j : Nat} {x : Str} {S : SV} {e : Expr} {es : List Expr} {u : VA} {p pos : Pos}
theorem run_fnRS {k : Nat} {f : Addr} {sp : Sp} {E : L2.St → XK} {pins : List (Addr × Obj)} {σ : L2.St} {H : Hp} {s : Shared} {Q : VK} {us : List Value} {vs : List V} (F : FnR X.prog X.w X.K X.mg X.base (L2.CX X.prog X.w) k f sp) (hr : Room k X.A) (hx : PassesAt (L2.CX X.prog X.w) X σ (E σ)) (I : Inv X pins σ H s) (r : Vals vs us) (h : sp vs H Q (E σ)) :
    wpAny (model X.prog X.w) X.A (call (.ref f) us) (EP X pins σ Q) X.xe s := by
  refine wpAny_call (codeAny_mono (F X.A X.stack s H us vs Q (E σ) hr I.env0 r h) fun r s' hq => ?_)
  cases r with
  | error e => exact hx pins H s e s' I hq
  | ok fl =>
    cases fl with
    | ret u => exact I.after hq
    | next => exact False.elim hq
    | brk => exact False.elim hq
    | cont => exact False.elim hq
theorem ve_calR (c : CalR X.prog X.w X.K X.mg X.base b k x S) (hr : Room j X.A) (tk : Takes X W) (hg : Gl X x) (ha : VAs X b W (e :: es) u) (hk : k ≤ j := by decide) (hdb : (x == ("__debug__" : Str)) = false := by decide)
    (he : starEach (e :: es) X.env = (false, eval e X.env) :: starEach es X.env := by rfl) (hpl : (backTo pos (starEach es X.env)).any (·.1) = false := by rfl) : VE X b W (.Call (.Name x p) (e :: es) [] pos) (vCall S u) := by
  refine pe_mono (t := tCallS (spV b S) (WE W) (LA b W u)) ⟨fun pins s σ H Q I h => ?_⟩ (call_core rfl rfl)
  refine wpAny_Call_Name_kw (ld_glob I hg c.g ?_ hdb)
  refine PySem.W.callWith_K (h₀ := X.base) I.ok.mod.kin c.kp (thn (ha.run pos pins s σ H _ I h) fun us s1 ⟨vs, H1, I1, r, q⟩ => ⟨I1.kIn, ?_⟩) he hpl
  exact run_fnRS c.F (hr.mono hk) (passAt tk σ) I1 r q
theorem ve_calR0 (c : CalR X.prog X.w X.K X.mg X.base b k x S) (hr : Room j X.A) (tk : Takes X W) (hg : Gl X x) (hk : k ≤ j := by decide) (hdb : (x == ("__debug__" : Str)) = false := by decide) :
    VE X b W (.Call (.Name x p) [] [] pos) (vCall S vNil) := by
  refine pe_mono (t := tCallS (spV b S) (WE W) tNil) ⟨fun pins s σ H Q I h => ?_⟩ fun σ H Q ⟨Zo, Z, ρ, Qd, Ed, v, q, l, m⟩ => ⟨Z, [], Qd, Ed, v.gd, .nil, q, l, m⟩
  exact wpAny_Call_Name_kw (ld_glob I hg c.g (PySem.W.callWith_K0 I.kIn c.kp (run_fnRS (us := []) c.F (hr.mono hk) (passAt tk σ) I .nil h)) hdb)
end
end VL
set_option Elab.async false
set_option linter.all false
set_option maxRecDepth 100000
set_option maxHeartbeats 2000000
/-! VL39: list.count of bools -/
namespace VL
open PySem PySem.Spec PyProof.Rows L2
def eqb (k : Bool) (v : Value) : Bool := match v with
  | .bool n => n == k
  | _ => false
theorem bools_vals : ∀ {us : List Value} {ns : List Bool}, Vals (ns.map V.bl) us → us = ns.map Value.bool
  | [], [], .nil => rfl
  | _, n :: ns, .cons r t => by
    cases r
    rw [List.map_cons, bools_vals t]
theorem eqb_count {k : Bool} : ∀ {ns : List Bool}, (ns.map Value.bool).countP (eqb k) = ns.count k
  | [] => rfl
  | n :: ns => by
    have ih := eqb_count (k := k) (ns := ns)
    rw [List.map_cons, List.countP_cons, List.count_cons, ih] <;> rfl
def rCntB (K : PySem.W.Frag) : V → List V → Hp → VK → Prop := fun x xs H Q => ∃ (p : Addr) (ns : List Bool) (k : Bool), x = .ref p ∧ xs = [.bl k] ∧ SqL K H p (ns.map V.bl) ∧ Q (.int (ns.count k : Nat)) H
theorem mt_lcountB {X : Cx} : MtR X "list.count" (rCntB X.K) := by
  intro pins s σ H x xs v us Q I rx rxs h
  obtain ⟨p, ns, k, rfl, rfl, hs, q⟩ := h
  cases rx
  obtain ⟨u, rfl, ru⟩ := vals1 rxs
  cases ru
  obtain ⟨its, rv, ⟨⟨cls, dd, data, sl⟩, n, ho, hc, hdn, hd⟩, hlen⟩ := I.list hs
  simp only at hc hd
  subst hc hd
  have hi := bools_vals rv
  refine call_meets PySem.F.slot_list_count ⟨_, ho, rfl⟩ PySem.F.entry_list_count (PySem.F.args_list_count_2 _ _)
    (SeqAt.list_countAt p its.toArray n dd sl (.bool k) (eqb k)) ⟨ho, fun y hy => ?_, ?_⟩
  · subst hi
    obtain ⟨z, _, rfl⟩ := List.mem_map.mp (by rw [List.mem_toArray] at hy; exact hy)
    exact PySem.SeqAt.EqAt.bool_bool z k
  · have ec : its.toArray.toList.countP (eqb k) = ns.count k := by subst hi; simpa using eqb_count
    refine ⟨.int (ns.count k : Nat), H, I.tok _, ⟨s.toks, ?_⟩, q⟩
    show Value.int ((its.toArray.toList.countP (eqb k) : Nat) : Int) s.toks = Value.int ((ns.count k : Nat) : Int) s.toks
    rw [ec]
@[simp] def isLi : D → Prop
  | .py (.list _) => True
  | _ => False
@[simp] def gCountB : D → List D → (D → Prop) → Prop
  | .py (.list xs), [.py (.bool k)], Q => ∃ ns, allB xs = some ns ∧ Q (.py (.int (ns.count k : Nat)))
  | _, _, _ => False
theorem mx_cntB {X : Cx} {b : Bg} : MetX X b (RE b) "count" isLi gCountB := fun Z H x d gd rx kd => by
  match d, kd, rx with
  | .py (.list ps), _, rx =>
    obtain ⟨a, us, rfl, ha, _⟩ := rx.list
    refine ⟨_, ⟨"list", _, PySem.F.plainAttrs_list, PySem.F.slot_list_count, PySem.F.type_list_count, mt_lcountB, ty_lst ha⟩, fun H' xs ds Q Qd _ gd' rx' rs h k => ?_⟩
    match ds, h, rs with
    | [.py (.bool c)], ⟨ns, e, h⟩, .cons r .nil =>
      obtain rfl := r.bool
      obtain ⟨a', us', ea, ha', qa'⟩ := rx'.list
      cases ea
      rw [allB_of e] at qa'
      have eu := qa'.bools
      subst eu
      exact ⟨a, ns, c, rfl, rfl, SqL.of ha', k _ H' (.py (.int _)) Ex.refl gd'.g (.int _) h⟩
end VL
set_option Elab.async false
set_option linter.all false
set_option maxRecDepth 100000
set_option maxHeartbeats 4000000
/-! VL40: the law's head for any background; the gear: a list of three numbers that a def draws from -/
namespace VL
open PySem PySem.Spec PyProof.Rows L2
theorem law_restX {B : Bg} {r : Addr} {H : Hp} {N : List Str} {i : Nat} {a : Addr} {t : VS} {Q : VK} {E : XK} (hG : B.G H) (h0 : 0 < N.length) (hi : i < N.length)
    (law : t (envBag N.length i r) (fin isTrue' noE)) (q : ∀ H', Q (.bl true) H') : LS B (WF E) t { nx := fun _ H' => Q .non H', rt := Q } ((L2.start N [.ref a]).set i (some (.ref r))) H := by
  have hl : (L2.start N [V.ref a]).length = N.length := by
    unfold L2.start
    rw [List.length_append, List.length_map, List.length_replicate, List.length_singleton]
    omega
  refine ⟨H, fun _ => False, B.B, B.B, _, _, ⟨⟨hG, fun _ z => z, fun _ z => z, fun a z => B.dom H a hG z, fun _ z => .inl z, fun j d e => ?_, fun j k d e c h1 _ _ _ => ?_, fun j d e => ?_, ?_⟩, fun _ _ e _ _ => e, fun j d c h1 _ => ?_⟩, law, ⟨fun _ _ _ _ _ h => (by cases h), fun v H' d _ _ rp h => ?_, fun _ _ _ _ _ h => h.elim, fun _ _ _ _ _ h => h.elim, fun _ _ _ _ _ _ _ _ _ h => h.elim⟩⟩
  · rcases envBag_at e with h | ⟨_, h⟩ <;> cases h
  · rcases envBag_at h1 with h | ⟨_, h⟩ <;> cases h
  · rcases envBag_at e with h | ⟨ej, h⟩
    · cases h
    · cases h
      subst ej
      exact ⟨.ref r, List.getElem?_set_self (by rw [hl]; exact hi), rfl⟩
  · unfold envBag
    rw [List.length_set, List.length_replicate, List.length_set, hl]
  · rcases envBag_at h1 with h | ⟨_, h⟩ <;> cases h
  · have h' : d = .py (.bool true) := h
    subst h'
    have rp' : Rq B.B H' v (.bool true) := rp
    cases rp'
    exact q H'
section
variable {P : Program} {w : World} {K : PySem.W.Frag} {mg : Str → Option Value} {base : Heap} {k k0 : Nat} {st : Stmt} {f fo : Addr} {fd fdo : FuncData} {N : List Str}
theorem lawX {ι : Type} (Bf : ι → Bg) (rf : ι → Addr) {spO : Sp} {bn on : Str} (hO : ∀ (a : Addr) (ns : List Int) (H : Hp) (Q : VK) (E : XK), SqL K H a (ns.map V.int) → ns.length ≤ 63 → (∀ x H', (Bf x).G H' → Q (.ref (rf x)) H') → spO [.ref a] H Q E) {i : Nat} {t : ι → VS} {p1 p2 p3 p4 p5 : Pos} {rest : List Stmt} {nm : Str} (F : Fun K nm nm st f fd) (Sc : FnScope N ["_law_script"] (defScope st))
    (hst : defBody st = .Assign [.Name bn p1] (.Call (.Name on p2) [.Name "_law_script" p3] [] p4) p5 :: rest)
    (FO : FnOk P w K mg base (L2.CX P w) k0 fo fdo ["_law_script"] spO) (gO : mg on = some (.ref fo)) (kO : PySem.W.keepIn K (.ref fo) = true) (bO : Binds K fdo ["_law_script"] []) (hk : k0 ≤ k) (hdb : (on == ("__debug__" : Str)) = false := by decide)
    (hi : N[i]? = some bn) (h0 : N[0]? = some ("_law_script" : Str)) (hloc : Loc (defScope st) bn) (hloc0 : (defScope st).names.lookup ("_law_script" : Str) = some .local) (hgl : (defScope st).names.lookup on = some .globalImplicit)
    (hbody : ∀ (x : ι) (cdv : Value) (A : Around) (outer : List Env) (s : Shared) (H : Hp) (E : XK), Room k (A.deeper (envOfC nm (defScope st) s.heap.objs.size f cdv)) → (A.deeper (envOfC nm (defScope st) s.heap.objs.size f cdv)).guards = some [] →
      Takes (cxOf (L2.CX P w) P w K mg base N nm (defScope st) f cdv A outer s H E) (WF E) → VSs (cxOf (L2.CX P w) P w K mg base N nm (defScope st) f cdv A outer s H E) (Bf x) (WF E) rest (t x))
    (law : ∀ x, t x (envBag N.length i (rf x)) (fin isTrue' noE)) : FnG P w K mg base (k + 1) f fd ["_law_script"] (spLaw K) := by
  refine fnG F Sc (fun vs H Q E ⟨a, ns, e, _⟩ => by rw [e]; rfl) fun cdv A outer s H vs Q E hr hg ⟨a, ns, ev, hS, hl, q⟩ => ?_
  subst ev
  rw [hst]
  have tk : Takes (cxOf (L2.CX P w) P w K mg base N nm (defScope st) f cdv A outer s H E) (WF E) := takes_of rfl rfl rfl rfl
  have hN0 : 0 < N.length := (List.getElem?_eq_some_iff.mp h0).1
  have hNi : i < N.length := (List.getElem?_eq_some_iff.mp hi).1
  refine ⟨_, pss_cons (ps_set (X := cxOf (L2.CX P w) P w K mg base N nm (defScope st) f cdv A outer s H E) (i := i) Sc.nd hi hloc (pe_callS FO (hr.mono hk) ?_ gO kO bO (fun σ => passAt tk σ) (pa_cons (pe_var h0 (.inl hloc0)) pa_nil) hdb) (by rfl) (.inl rfl))
    (pss_ex fun x => hbody x cdv A outer s H E hr hg tk), ?_⟩
  · exact hgl
  · refine ⟨.ref a, ?_, hO a ns _ _ _ hS hl fun x H' hG => ⟨x, law_restX hG hN0 hNi (law x) q⟩⟩
    unfold L2.start
    rfl
end

/-! ### the gear -/
def gearAt (r : Addr) (H : Hp) : Prop := ∃ x y z : Int, H r = some (.lst [.int x, .int y, .int z])
def gearB (cls : Str → Addr) (r : Addr) : Bg where
  cls := cls
  B := fun a => a = r
  G := fun H => gearAt r H
  loc := fun H H' h ⟨x, y, z, e⟩ => ⟨x, y, z, by rw [h r rfl]; exact e⟩
  dom := fun H a ⟨x, y, z, e⟩ h => by
    have h : a = r := h
    subst h
    rw [e]; simp
def KeepG (r : Addr) (H H' : Hp) : Prop := ∀ a o, H a = some o → a ≠ r → H' a = some o
theorem KeepG.ex {cls : Str → Addr} {r : Addr} {H H' : Hp} (k : KeepG r H H') : Ex (gearB cls r) H H' := fun a o e n => k a o e fun h => n h
theorem KeepG.refl {r : Addr} {H : Hp} : KeepG r H H := fun _ _ e _ => e
theorem KeepG.upd {r : Addr} {H H1 : Hp} {o : HO} (h : KeepG r H H1) : KeepG r H (upd H1 r o) := fun a u e n => by rw [upd_ne n]; exact h a u e n
/-- what the def that draws promises -/
def spTooth : Sp := fun vs H Q _ => ∃ r, ∃ m : Int, vs = [.ref r, .int m] ∧ gearAt r H ∧ 0 < m ∧ m < 1073741824 ∧ ∀ H' x, KeepG r H H' → gearAt r H' → 0 ≤ x → x < m → Q (.int x) H'
theorem tooth_v {P : Program} {w : World} {K : PySem.W.Frag} {mg : Str → Option Value} {base : Heap} {k : Nat} {f : Addr} {fd : FuncData} {ps : List Str} {CX : CXT} {cls : Str → Addr} {r : Addr} (h : FnOk P w K mg base CX k f fd ps spTooth) : FnOk P w K mg base CX k f fd ps (spV (gearB cls r) (svTake r)) :=
  h.imp fun vs H Q E ⟨Z, ds, Qd, Ed, g, rp, hh, l, _⟩ => by
    obtain ⟨m, ed, h1, h2, q⟩ := svTake_ex hh
    subst ed
    obtain ⟨x, y, rfl, rx, ry⟩ := rbs2 rp
    have ex : x = .ref r := rx
    have ey : y = .int m := Rb.int (b := gearB cls r) (.inl ry)
    subst ex ey
    exact ⟨r, m, rfl, g.g, h1, h2, fun H' x kp b' x0 x1 => l (.int x) H' (.py (.int x)) kp.ex b' (.int x) (q x x0 x1)⟩
/-- what the def that makes it promises -/
def spGear (K : PySem.W.Frag) : Sp := fun vs H Q _ => ∃ (a : Addr) (ns : List Int), vs = [.ref a] ∧ SqL K H a (ns.map V.int) ∧ ns.length ≤ 63 ∧ ∀ r H', gearAt r H' → Q (.ref r) H'
end VL
set_option Elab.async false
set_option linter.all false
set_option maxRecDepth 100000
set_option maxHeartbeats 2000000
/-! VL41: isinstance with a pair of classes; a promise that nothing may ask -/
namespace VL
open PySem PySem.Spec PyProof.Rows L2
@[simp] def vIsi2 (T1 T2 : String) (t : VT) : VT := fun ρ Q E => t ρ (fun d => ∃ p, d = .py p ∧ ∃ k1 k2, isK T1 p = some k1 ∧ isK T2 p = some k2 ∧ Q (.py (.bool (k1 || k2)))) E
theorem kit_any2 {K : PySem.W.Frag} {p : PyData} {T1 T2 : String} {k1 k2 : Bool} (h1 : isK T1 p = some k1) (h2 : isK T2 p = some k2) : PySem.W.kitAny K (.type (tyName p)) [.type T1, .type T2] = some (k1 || k2) := by
  unfold PySem.W.kitAny
  rw [kit_ty (isi_of h1)]
  cases k1
  · unfold PySem.W.kitAny
    rw [kit_ty (isi_of h2)]
    cases k2 <;> rfl
  · rfl
section
variable {X : Cx} {b : Bg} {W : WX} {T1 T2 : String} {x1 x2 : Str} {e : Expr} {t : VT} {p p1 p2 p3 pos : Pos} {kk : Nat}
theorem ve_isi2 (hg : Gl X "isinstance") (hm : X.mg "isinstance" = none) (he : VX X b W e t) (g1 : Gl X x1) (m1 : X.mg x1 = none) (v1 : bootBuiltins x1 = some (.type T1)) (g2 : Gl X x2) (m2 : X.mg x2 = none) (v2 : bootBuiltins x2 = some (.type T2))
    (n1 : x1 ≠ "__name__" := by decide) (n2 : x2 ≠ "__name__" := by decide) (d1 : (x1 == ("__debug__" : Str)) = false := by decide) (d2 : (x2 == ("__debug__" : Str)) = false := by decide)
    (hs : starEach [e, .Tuple [.Name x1 p1, .Name x2 p2] kk p3] X.env = (false, eval e X.env) :: starEach [.Tuple [.Name x1 p1, .Name x2 p2] kk p3] X.env := by rfl) (hs2 : starEach [.Tuple [.Name x1 p1, .Name x2 p2] kk p3] X.env = (false, eval (.Tuple [.Name x1 p1, .Name x2 p2] kk p3) X.env) :: starEach [] X.env := by rfl) (hpl : (backTo pos (starEach [.Tuple [.Name x1 p1, .Name x2 p2] kk p3] X.env)).any (·.1) = false := by rfl) :
    VE X b W (.Call (.Name "isinstance" p) [e, .Tuple [.Name x1 p1, .Name x2 p2] kk p3] [] pos) (vIsi2 T1 T2 t) :=
  pe_mono (pe_callB call_isiT hg hm bb_isi (pa_cons he (pa_cons (pe_tup (pa_cons (pe_bltn (v := .ty T1) g1 m1 v1 rfl n1 d1) (pa_cons (pe_bltn (v := .ty T2) g2 m2 v2 rfl n2 d2) pa_nil))) pa_nil hs2) hs) (by decide) (by decide) hs hpl) fun σ H Q ⟨Zo, Z, ρ, Qd, Ed, v, q, l, m⟩ => ⟨Zo, Z, ρ, _, Ed, v, q, fun x H1 d x1 g1 r1 ⟨pd, ep, k1, k2, e1, e2, q1⟩ => by
    subst ep
    refine ⟨Nat.le_trans (show 2 ≤ 1000 by decide) (by decide), fun tp htp => ⟨x, tp, [.ty T1, .ty T2], _, [.type T1, .type T2], _, rfl, upd_same, .cons (.ty T1) (.cons (.ty T2) .nil), tyx_of (r1.q.mono (fun _ z => .inl z) (VL.up htp)), kit_any2 e1 e2, l (.bl _) _ (.py (.bool _)) (x1.trans (Ex.new htp)) (Bg.new g1 htp) (Rq.bl _) q1⟩⟩, m⟩
end
/-- no call is promised -/
theorem fnOk_never {P : Program} {w : World} {K : PySem.W.Frag} {mg : Str → Option Value} {base : Heap} {b : Bg} {k : Nat} {f : Addr} {fd : FuncData} {ps : List Str} : FnOk P w K mg base (L2.CX P w) k f fd ps (spV b fun _ _ _ => False) where
  len := fun vs H Q E ⟨_, _, _, _, _, _, h, _⟩ => h.elim
  run := fun A outer s H args us vs Q E hr e0 hb r ⟨_, _, _, _, _, _, h, _⟩ => h.elim
end VL
set_option Elab.async false
set_option linter.all false
set_option maxRecDepth 100000
set_option maxHeartbeats 4000000
/-! VL42: sorted of lists and tuples of ints -/
namespace VL
open PySem PySem.Spec PyProof.Rows L2
/-- sorted(t), a tuple of ints -/
def rSortedTup (K : PySem.W.Frag) : List V → Hp → VK → Prop := fun vs H Q => ∃ (a : Addr) (ns : List Int), vs = [V.ref a] ∧ SqT K H a (ns.map V.int) ∧
  ∀ (ns' : List Int) (p : Addr), ns'.Perm ns → ns'.Pairwise (· ≤ ·) → H p = none → Q (.ref p) (upd H p (.lst (ns'.map V.int)))
section
variable {X : Cx}
theorem cr_sortedTup : CallR X (.builtin "sorted") (rSortedTup X.K) := by
  intro pins s σ H vs us Q I r h
  obtain ⟨a, ns, rfl, hs, q⟩ := h
  obtain ⟨its, rv, ⟨o, ho, hc, n, hd⟩, hz⟩ := I.tuple hs
  rw [Vals.ref1 r]
  have hi := rv.ints
  have hzi : its.length ≤ sizeLine := by rw [← rv.length]; exact hz
  refine Calls.call_function_entry kind_sorted plain_sorted entry_sorted (args_sorted1 _) ?_
  unfold Builtin.«sorted»
  refine wpAny_bind (m := checkCount "sorted" 1 1 _) (wpAny_pure ?_)
  refine wpAny_bind (wpAny_collect_seq a (.inr rfl) ho hc hd (fun h' hk => ?_) (by rw [List.size_toArray]; exact hzi))
  have ei : its.toArray.toList = its := by simp
  rw [ei]
  have I2 : Inv X pins σ H { s with heap := h' } := I.kept (t' := s.toks) hk
  refine wpAny_bind (wpAny_newList ?_ hzi)
  have hoL : (h'.push (seqObj "list" its.toArray 0)).get? h'.objs.size = some (seqObj "list" its.toArray 0) := Heap.get?_push_size _ rfl
  refine wpAny_bind (wpAny_holding (wpAny_call_entry slot_list_sort ⟨_, hoL, rfl⟩ entry_list_sort (SrtO.list_sort_ord SrtO.swo_int hoL hzi (fun h2 => SrtO.ints_sortable hi h2) fun out hs hb => ⟨_, rfl, ?_⟩) (args_list_sort _)))
  obtain ⟨k1, k2, k3⟩ := SrtO.ints_out hi hs hb
  obtain ⟨ep, he'⟩ := PyProof.Rows.sortedHeap_at (vs := its) (out := out.toArray) hoL
  have hlen : ((out.map SrtO.iv).map V.int).length ≤ sizeLine := by
    rw [List.length_map, k2.length_eq]
    rw [List.length_map] at hz
    exact hz
  refine wpAny_pure ⟨_, rfl, ?_⟩
  exact ⟨.ref _, upd H h'.objs.size (.lst ((out.map SrtO.iv).map V.int)), I2.laid (t' := s.toks) (fun b u hu => by
    have hne : b ≠ h'.objs.size := Nat.ne_of_lt (Heap.lt_size hu)
    rw [PyProof.Rows.sortedHeap_old hne (Heap.lt_size (Heap.get?_push_of_some _ hu))]
    exact Heap.get?_push_of_some _ hu) (Nat.le_refl _) ⟨hlen, out, ep, vals_of_ints k1, he'⟩, rfl, q _ _ k2 k3 (I2.hok.fresh (Nat.le_refl _))⟩
end
/-! ### over values -/
theorem perm_sorted_eq : ∀ {xs ys : List Int}, xs.Perm ys → xs.Pairwise (· ≤ ·) → ys.Pairwise (· ≤ ·) → xs = ys
  | [], ys, h, _, _ => h.nil_eq
  | x :: xs, [], h, _, _ => (List.Perm.nil_eq h.symm).symm
  | x :: xs, y :: ys, h, h1, h2 => by
    rw [List.pairwise_cons] at h1 h2
    have e : x = y := by
      have m1 : x ∈ y :: ys := h.mem_iff.mp List.mem_cons_self
      have m2 : y ∈ x :: xs := h.mem_iff.mpr List.mem_cons_self
      rcases List.mem_cons.mp m1 with e | e
      · exact e
      · rcases List.mem_cons.mp m2 with e' | e'
        · exact e'.symm
        · have := h1.1 y e'
          have := h2.1 x e
          omega
    subst e
    rw [perm_sorted_eq (List.perm_cons _ |>.mp h) h1.2 h2.2]
def sortI (ns : List Int) : List Int := ns.mergeSort (fun a b => decide (a ≤ b))
theorem sortI_perm (ns : List Int) : (sortI ns).Perm ns := List.mergeSort_perm _ _
theorem sortI_sorted (ns : List Int) : (sortI ns).Pairwise (· ≤ ·) := by
  have := List.pairwise_mergeSort (le := fun a b : Int => decide (a ≤ b)) (fun a b c h1 h2 => by simp at *; omega) (fun a b => by simp; omega) ns
  exact this.imp fun h => by simpa using h
theorem sortI_eq {ns ms : List Int} (h : ms.Perm ns) (h1 : ms.Pairwise (· ≤ ·)) : ms = sortI ns := perm_sorted_eq (h.trans (sortI_perm ns).symm) h1 (sortI_sorted ns)
@[simp] def gSorted : List D → (D → Prop) → Prop
  | [.py (.list xs)], Q => ∃ ns, allI xs = some ns ∧ Q (.py (.list ((sortI ns).map PyData.int)))
  | [.py (.tuple xs)], Q => ∃ ns, allI xs = some ns ∧ Q (.py (.list ((sortI ns).map PyData.int)))
  | _, _ => False
theorem rd_sorted {K : PySem.W.Frag} {b : Bg} : CalD b (RN b) (fun xs H Q => rSortedI K xs H Q ∨ rSortedTup K xs H Q) gSorted := by
  intro Z H vs ds Q Qd gd rx h k
  match ds, h, rx with
  | [.py (.list xs)], ⟨ns, e, h⟩, rx =>
    obtain ⟨x, rfl, r⟩ := rx.one
    obtain ⟨a, us, rfl, ha, qa⟩ := r.list
    rw [allI_of e] at qa
    have eu := qa.ints
    subst eu
    refine .inl ⟨a, ns, rfl, SqL.of ha, fun ns' p hp hs hn => ?_⟩
    have es := sortI_eq hp hs
    subst es
    exact k _ _ (.py (.list _)) (Ex.new hn) (gd.new hn) ⟨p, rfl, hn, _, upd_same, .of_ints _⟩ h
  | [.py (.tuple xs)], ⟨ns, e, h⟩, rx =>
    obtain ⟨x, rfl, r⟩ := rx.one
    obtain ⟨a, oa, us, rfl, ha, da, na, qa⟩ := r.tuple
    rw [allI_of e] at qa
    have eu := qa.ints
    subst eu
    refine .inr ⟨a, ns, rfl, SqT.th ha, fun ns' p hp hs hn => ?_⟩
    have es := sortI_eq hp hs
    subst es
    exact k _ _ (.py (.list _)) (Ex.new hn) (gd.new hn) ⟨p, rfl, hn, _, upd_same, .of_ints _⟩ h
theorem bb_sorted : bootBuiltins "sorted" = some (.builtin "sorted") := by decide +kernel
section
variable {X : Cx} {b : Bg} {W : WX} {e : Expr} {es : List Expr} {u : VA} {p pos : Pos}
theorem vn_sortedC (hg : Gl X "sorted") (hm : X.mg "sorted" = none) (ha : VXs X b W (e :: es) u) (he : starEach (e :: es) X.env = (false, eval e X.env) :: starEach es X.env := by rfl) (hpl : (backTo pos (starEach es X.env)).any (·.1) = false := by rfl) :
    VN X b W (.Call (.Name "sorted" p) (e :: es) [] pos) (vCal gSorted u) := vn_callB (CallR.or cr_sortedI cr_sortedTup) rd_sorted hg hm bb_sorted ha (by decide) (by decide) he hpl
end
end VL
set_option Elab.async false
set_option linter.all false
set_option maxRecDepth 100000
set_option maxHeartbeats 4000000
/-! VL43: len(set(t)), t a tuple of ints -/
namespace VL
open PySem PySem.Spec PyProof.Rows L2
section
variable {X : Cx}
def tLenSetT (K : PySem.W.Frag) (ta : TE) : TE := fun σ H Q => ta σ H fun x H1 => ∃ (l : Addr) (ns : List Int), x = V.ref l ∧ SqT K H1 l (ns.map V.int) ∧ ns.length < 1000 ∧ ∀ ks : List Int, ks.Nodup → (∀ j, j ∈ ks ↔ j ∈ ns) → Q (.int (ks.length : Nat)) H1
theorem pe_lenSetT {a : Expr} {ta : TE} {p p2 q pos : Pos} (hc : X.calm = true) (hg : Gl X "len") (hm : X.mg "len" = none) (hg2 : Gl X "set") (hm2 : X.mg "set" = none) (ha : PE X a ta)
    (na : starEach [a] X.env = (false, eval a X.env) :: starEach [] X.env := by rfl) : PE X (.Call (.Name "len" p) [.Call (.Name "set" p2) [a] [] q] [] pos) (tLenSetT X.K ta) := by
  refine ⟨fun pins s σ H Q I h => ?_⟩
  refine Call_ (ld_blt I hg hm PySem.boot_len ?_)
  refine PyProof.Rows.callWith_builtin1 (PyProof.Rows.args_cons ?_ rfl) rfl rfl
  refine Call_ (ld_blt I hg2 hm2 PyProof.Rows.boot_set ?_)
  refine PyProof.Rows.callWith_type1 (PyProof.Rows.args_cons (thn (ha.run pins s σ H _ I h) fun v s1 ⟨x, H1, I1, r1, q1⟩ => PyProof.Rows.args_nil ?_) na) na rfl
  obtain ⟨l, ns, rfl, hq, h1, q1⟩ := q1
  cases r1
  obtain ⟨its, r, pl, hz⟩ := I1.tuple hq
  refine call_set_tupI (P := X.prog) ns (I1.ok.hd hc) pl (by simpa using r.ints) (by unfold scanBound; omega) fun h' tk c hS hcn hk => ?_
  refine PyProof.Rows.args_nil ?_
  obtain ⟨o, es, ep, t, ho, hex, hd, _, hnd, hmem, _, hf, hn, _, _⟩ := hS
  have I2 : Inv X pins σ H1 { s1 with heap := h', toks := tk } := I1.kept hk
  have hes : es.size ≤ ns.length := by omega
  refine call_len_set ho hex hd hf (by omega) ⟨.int (es.size : Nat), H1, I2.tok _, ⟨_, rfl⟩, ?_⟩
  have := q1 (es.toList.map L2.keyOf) hnd (fun j => by rw [← hmem j]; simp)
  rw [List.length_map, Array.length_toList] at this
  exact this
end
@[simp] def vLenSet (t : VT) : VT := fun ρ Q E => t ρ (fun d => ∃ xs ns, d = .py (.tuple xs) ∧ allI xs = some ns ∧ ns.length < 1000 ∧ ∀ ks : List Int, ks.Nodup → (∀ j, j ∈ ks ↔ j ∈ ns) → Q (.py (.int (ks.length : Nat)))) E
theorem ve_lenSet {X : Cx} {b : Bg} {W : WX} {a : Expr} {t : VT} {p p2 q pos : Pos} (hc : X.calm = true) (hg : Gl X "len") (hm : X.mg "len" = none) (hg2 : Gl X "set") (hm2 : X.mg "set" = none) (ha : VX X b W a t)
    (na : starEach [a] X.env = (false, eval a X.env) :: starEach [] X.env := by rfl) : VE X b W (.Call (.Name "len" p) [.Call (.Name "set" p2) [a] [] q] [] pos) (vLenSet t) :=
  pe_mono (pe_lenSetT hc hg hm hg2 hm2 ha na) fun σ H Q ⟨Zo, Z, ρ, Qd, Ed, v, q, l, m⟩ => ⟨Zo, Z, ρ, _, Ed, v, q, fun x H1 d x1 g1 r1 ⟨xs, ns, ed, e, hl, q1⟩ => by
    subst ed
    obtain ⟨a, oa, us, rfl, ha, da, na, qa⟩ := r1.tuple
    rw [allI_of e] at qa
    have eu := qa.ints
    subst eu
    exact ⟨a, ns, rfl, SqT.th ha, hl, fun ks h1 h2 => l _ _ (.py (.int _)) x1 g1 (Rq.int _) (q1 ks h1 h2)⟩, m⟩
end VL
set_option Elab.async false
set_option linter.all false
set_option maxRecDepth 100000
set_option maxHeartbeats 4000000
/-! VL44: the jug: a list of a list and two numbers -/
namespace VL
open PySem PySem.Spec PyProof.Rows L2
def jugAt (r l : Addr) (gs : List Int) (H : Hp) : Prop := ∃ x n : Int, H r = some (.lst [.ref l, .int x, .int n]) ∧ H l = some (.lst (gs.map V.int)) ∧ gs.length ≤ 63
theorem jugAt.ne {r l : Addr} {gs : List Int} {H : Hp} (h : jugAt r l gs H) : r ≠ l := fun e => by
  obtain ⟨x, n, h1, h2, _⟩ := h
  subst e
  rw [h1] at h2
  cases gs <;> simp at h2
def jugB (cls : Str → Addr) (r l : Addr) : Bg where
  cls := cls
  B := fun a => a = r ∨ a = l
  G := fun H => ∃ gs, jugAt r l gs H
  loc := fun H H' h ⟨gs, x, n, e1, e2, e3⟩ => ⟨gs, x, n, by rw [h r (.inl rfl)]; exact e1, by rw [h l (.inr rfl)]; exact e2, e3⟩
  dom := fun H a ⟨gs, x, n, e1, e2, e3⟩ h => by
    rcases h with rfl | rfl
    · rw [e1]; simp
    · rw [e2]; simp
def KeepJ (r l : Addr) (H H' : Hp) : Prop := ∀ a o, H a = some o → a ≠ r → a ≠ l → H' a = some o
theorem KeepJ.ex {cls : Str → Addr} {r l : Addr} {H H' : Hp} (k : KeepJ r l H H') : Ex (jugB cls r l) H H' := fun a o e n => k a o e (fun h => n (.inl h)) fun h => n (.inr h)
theorem KeepJ.refl {r l : Addr} {H : Hp} : KeepJ r l H H := fun _ _ e _ _ => e
theorem KeepJ.upd {r l p : Addr} {H H1 : Hp} {o : HO} (h : KeepJ r l H H1) (hp : p = r ∨ p = l ∨ H1 p = none) : KeepJ r l H (upd H1 p o) := fun a u e n1 n2 => by
  have e1 := h a u e n1 n2
  rw [upd_ne (fun q => by
    subst q
    rcases hp with q | q | q
    · exact n1 q
    · exact n2 q
    · rw [q] at e1; cases e1)]
  exact e1
def spPour : Sp := fun vs H Q _ => ∃ r l gs, ∃ m : Int, vs = [.ref r, .int m] ∧ jugAt r l gs H ∧ 0 < m ∧ m < 1073741824 ∧ ∀ H' gs' x, KeepJ r l H H' → jugAt r l gs' H' → 0 ≤ x → x < m → Q (.int x) H'
theorem pour_v {P : Program} {w : World} {K : PySem.W.Frag} {mg : Str → Option Value} {base : Heap} {k : Nat} {f : Addr} {fd : FuncData} {ps : List Str} {CX : CXT} {cls : Str → Addr} {r l1 : Addr} (h : FnOk P w K mg base CX k f fd ps spPour) : FnOk P w K mg base CX k f fd ps (spV (jugB cls r l1) (svTake r)) :=
  h.imp fun vs H Q E ⟨Z, ds, Qd, Ed, g, rp, hh, l, _⟩ => by
    obtain ⟨m, ed, h1, h2, q⟩ := svTake_ex hh
    subst ed
    obtain ⟨x, y, rfl, rx, ry⟩ := rbs2 rp
    have ex : x = .ref r := rx
    have ey : y = .int m := Rb.int (b := jugB cls r l1) (.inl ry)
    subst ex ey
    obtain ⟨gs, hb⟩ := g.g
    exact ⟨r, l1, gs, m, rfl, hb, h1, h2, fun H' gs' x kp b' x0 x1 => l (.int x) H' (.py (.int x)) kp.ex ⟨gs', b'⟩ (.int x) (q x x0 x1)⟩
def spJug (K : PySem.W.Frag) : Sp := fun vs H Q _ => ∃ (a : Addr) (ns : List Int), vs = [.ref a] ∧ SqL K H a (ns.map V.int) ∧ ns.length ≤ 63 ∧ ∀ r l H', (∃ gs, jugAt r l gs H') → Q (.ref r) H'
end VL
set_option Elab.async false
set_option linter.all false
set_option maxRecDepth 100000
set_option maxHeartbeats 4000000
/-! VL45: found.append(left.pop(k)), both lists owned -/
namespace VL
open PySem PySem.Spec PyProof.Rows L2
theorem Rqs.getP {Z : Addr → Prop} {H : Hp} : ∀ {vs : List V} {ds : List PyData} {k : Nat} {p : PyData}, Rqs Z H vs ds → ds[k]? = some p → ∃ v, vs[k]? = some v ∧ Rq Z H v p
  | _, _, _, _, .nil, e => by simp at e
  | _, _, 0, _, .cons r _, e => by simp at e; subst e; exact ⟨_, rfl, r⟩
  | _, _, k + 1, _, .cons _ t, e => by
    obtain ⟨v, h1, h2⟩ := Rqs.getP (k := k) t (by simpa using e)
    exact ⟨v, by simpa using h1, h2⟩
theorem Rqs.erase {Z : Addr → Prop} {H : Hp} : ∀ {vs : List V} {ds : List PyData} (k : Nat), Rqs Z H vs ds → Rqs Z H (vs.eraseIdx k) (ds.eraseIdx k)
  | _, _, _, .nil => .nil
  | _, _, 0, .cons _ t => t
  | _, _, k + 1, .cons r t => .cons r (Rqs.erase k t)
@[simp] def sPopApp (i j : Nat) (te : VT) : VS := fun ρ De => ∃ xs ys, ρ[i]? = some (.own (.py (.list xs))) ∧ ρ[j]? = some (.own (.py (.list ys))) ∧ i ≠ j ∧ xs.length < sizeLine ∧ ys.length ≤ sizeLine ∧
  te ρ (fun d => ∃ k : Nat, d = .py (.int (k : Nat)) ∧ ∃ p, ys[k]? = some p ∧ De.nx ((ρ.set j (.own (.py (.list (ys.eraseIdx k))))).set i (.own (.py (.list (xs ++ [p])))))) (De.ex ρ)
section
variable {X : Cx} {b : Bg} {W : WX} {o o2 e : Expr} {i j : Nat} {te : VT} {apos cpos pos apos2 cpos2 : Pos}
theorem vs_popApp (ho : PE X o (tVar i)) (ho2 : PE X o2 (tVar j)) (he : VE X b W e te)
    (hb1 : attributeBase o "append" X.env (eval o X.env) = eval o X.env := by rfl) (hb2 : attributeBase o2 "pop" X.env (eval o2 X.env) = eval o2 X.env := by rfl)
    (hf1 : ((backTo cpos (starEach [.Call (.Attribute o2 "pop" apos2) [e] [] cpos2] X.env)).all (fun x => !x.1) && (backToKw cpos (keywordEach [] X.env)).all (fun x => x.1.isSome)
      && decide (([.Call (.Attribute o2 "pop" apos2) [e] [] cpos2] : List Expr).length + ([] : List Keyword).length + (if ([] : List Keyword).isEmpty then 0 else 1) < 30)) = true := by rfl)
    (hf2 : ((backTo cpos2 (starEach [e] X.env)).all (fun x => !x.1) && (backToKw cpos2 (keywordEach [] X.env)).all (fun x => x.1.isSome)
      && decide ([e].length + ([] : List Keyword).length + (if ([] : List Keyword).isEmpty then 0 else 1) < 30)) = true := by rfl)
    (hl1 : (apos.endLine == cpos.line) = true := by rfl) (hl2 : (apos2.endLine == cpos2.line) = true := by rfl)
    (hs1 : starEach [.Call (.Attribute o2 "pop" apos2) [e] [] cpos2] X.env = (false, eval (.Call (.Attribute o2 "pop" apos2) [e] [] cpos2) X.env) :: starEach [] X.env := by rfl) (hs2 : starEach [e] X.env = (false, eval e X.env) :: starEach [] X.env := by rfl)
    (hp1 : (backTo cpos (starEach [] X.env)).any (·.1) = false := by rfl) (hp2 : (backTo cpos2 (starEach [] X.env)).any (·.1) = false := by rfl)
    (hsw : swapsWith (.Call (.Attribute o "append" apos) [.Call (.Attribute o2 "pop" apos2) [e] [] cpos2] [] cpos) none pos.line X.env = pure false := by rfl) :
    VSt X b W (.Expr (.Call (.Attribute o "append" apos) [.Call (.Attribute o2 "pop" apos2) [e] [] cpos2] [] cpos) pos) (sPopApp i j te) :=
  ps_mono (ps_expr (pe_bm PySem.F.plainAttrs_list PySem.F.slot_list_append PySem.F.type_list_append mt_append ho (pa_cons (pe_bm PySem.F.plainAttrs_list PySem.F.slot_list_pop PySem.F.type_list_pop mt_popAt ho2 (pa_cons he pa_nil hs2) hb2 hf2 hl2 hs2 hp2) pa_nil hs1) hb1 hf1 hl1 hs1 hp1) hsw) fun Dn σ H ⟨H0, M, Zo, Z, ρ, De, f, ⟨xs, ys, e1, e2, nij, zx, zy, q⟩, l⟩ => by
    obtain ⟨a, h1, h2, h3, axs, h4, h5⟩ := f.v.own i _ e1
    obtain ⟨c, g1, g2, g3, cys, g4, g5⟩ := f.v.own j _ e2
    refine ⟨.ref a, h1, .inl ⟨rfl, axs, SqL.of h4⟩, .ref c, g1, .inl ⟨rfl, cys, SqL.of g4⟩, Zo, Z, ρ, _, _, f.v, q, fun v H1 d x1 gg r1 ⟨k, ed, p, hp, q2⟩ => ?_, l.er f⟩
    subst ed
    obtain rfl := Rb.int (b := b) (Z := Z) (H := H1) (.inl r1)
    have f1 := f.ex x1 gg
    obtain ⟨c', g1', g2', g3', cys', g4', g5'⟩ := f1.v.own j _ e2
    rw [g1] at g1'; cases g1'
    obtain ⟨y, hy, ry⟩ := g5'.getP hp
    have hk : k < ys.length := (List.getElem?_eq_some_iff.mp hp).1
    have hlen : cys'.length = ys.length := g5'.length
    have hsl := sizeLine_eq
    have si : seqIndex? (k : Int) cys'.length = some k := by
      rw [seqIndex_of (by omega) (by omega)]; simp
    refine ⟨c, cys', (k : Int), k, y, rfl, rfl, g4', by omega, by omega, si, hy, ?_⟩
    have up_ : ∀ b2 u, H1 b2 = some u → ¬ Z b2 → upd H1 c (.lst (cys'.eraseIdx k)) b2 = some u := fun b2 u ee n => by
      rw [upd_ne (fun w => n (by rw [w]; exact g2))]
      exact ee
    have f2 := f1.mut (d' := .py (.list (ys.eraseIdx k))) e2 g1 ⟨cys'.eraseIdx k, upd_same, (g5'.erase k).mono (fun _ z => .inl z) up_⟩
    have e1' : (ρ.set j (.own (.py (.list (ys.eraseIdx k)))))[i]? = some (.own (.py (.list xs))) := by rw [List.getElem?_set_ne (Ne.symm nij)]; exact e1
    obtain ⟨a2, i1, i2, i3, axs2, i4, i5⟩ := f2.v.own i _ e1'
    rw [h1] at i1; cases i1
    have ry2 : Rq Z (upd H1 c (.lst (cys'.eraseIdx k))) y p := ry.mono (fun _ z => .inl z) up_
    refine ⟨a, axs2, y, rfl, rfl, i4, by rw [i5.length]; exact zx, l.nx _ _ _ _ (f2.mut (d' := .py (.list (xs ++ [p]))) e1' h1 ⟨axs2 ++ [y], upd_same, (i5.append (.cons ry2 .nil)).mono (fun _ z => .inl z) fun b2 u ee n => ?_⟩) q2⟩
    rw [upd_ne (fun w => n (by rw [w]; exact i2))]
    exact ee
end
end VL
set_option Elab.async false
set_option linter.all false
set_option maxRecDepth 100000
set_option maxHeartbeats 4000000
/-! VL46: list(range(n)), tuple(range(n)) -/
namespace VL
open PySem PySem.Spec PyProof.Rows L2
section
variable {X : Cx} {a e : Expr} {ta : TE} {te : L2.St → Hp → (Int → Int → Hp → Prop) → Prop}
def tTupRgF (te : L2.St → Hp → (Int → Int → Hp → Prop) → Prop) : TE := fun σ H Q => te σ H fun a b H1 => RgOk a b ∧ NewT H1 (rgV a b) Q
theorem pe_tupRgF {p pos : Pos} (hc : X.calm = true) (hg : Gl X "tuple") (hm : X.mg "tuple" = none) (he : PRg X e te) (na : starEach [e] X.env = (false, eval e X.env) :: starEach [] X.env := by rfl) : PE X (.Call (.Name "tuple" p) [e] [] pos) (tTupRgF te) := by
  refine ⟨fun pins s σ H Q I h => ?_⟩
  refine Call_ (ld_blt I hg hm boot_tuple (PyProof.Rows.callWith_type1 (args_cons (thn (he pins s σ H _ I h) fun x s1 ⟨r, a, b, t, u, v, H1, ex, hr, I1, ok, q⟩ => args_nil ?_) na) na))
  subst ex
  obtain ⟨b1, b2, b3, b4, b5⟩ := ok
  refine call_tuple_range (n := (b - a).toNat) (I1.ok.hd hc) hr (small_one b1 b2 b3 b4) (rangeSize_nat a b) b5 fun h' tk acc hk hi => ?_
  have I2 : Inv X pins σ H1 { s1 with heap := h', toks := tk } := I1.kept hk
  have hz : (rgV a b).length ≤ sizeLine := by rw [rgV_length, sizeLine_eq]; omega
  have nt := new_th (tk := tk) I2 hz (vals_rg hi) q
  have e : (tob acc.toList) = ({ cls := .type "tuple", data := .seq acc } : Obj) := by unfold tob; rw [Array.toArray_toList]
  rw [e] at nt
  exact nt
end
theorem rgV_ints (n : Int) : rgV 0 n = ((List.range n.toNat).map fun i : Nat => (0 + (i : Int))).map V.int := by unfold rgV; rw [List.map_map, Int.sub_zero]; rfl
theorem rangeP_ints (n : Nat) : rangeP 0 n = ((List.range n).map fun i : Nat => (0 + (i : Int))).map PyData.int := by rw [rangeP_eq, List.map_map]; rfl
@[simp] def vLstRg (t : VT) : VT := fun ρ Q E => t ρ (fun d => ∃ n : Int, d = .py (.int n) ∧ 0 ≤ n ∧ n ≤ 1000000 ∧ Q (.py (.list (rangeP 0 n.toNat)))) E
@[simp] def vTupRg (t : VT) : VT := fun ρ Q E => t ρ (fun d => ∃ n : Int, d = .py (.int n) ∧ 0 ≤ n ∧ n ≤ 1000000 ∧ Q (.py (.tuple (rangeP 0 n.toNat)))) E
section
variable {X : Cx} {b : Bg} {W : WX} {a : Expr} {t : VT} {p p2 q pos : Pos}
theorem vn_listRg (hc : X.calm = true) (hg : Gl X "list") (hm : X.mg "list" = none) (hg2 : Gl X "range") (hm2 : X.mg "range" = none) (ha : VX X b W a t) (na : starEach [a] X.env = (false, eval a X.env) :: starEach [] X.env := by rfl)
    (nb : starEach [.Call (.Name "range" p2) [a] [] q] X.env = (false, eval (.Call (.Name "range" p2) [a] [] q) X.env) :: starEach [] X.env := by rfl) : VN X b W (.Call (.Name "list" p) [.Call (.Name "range" p2) [a] [] q] [] pos) (vLstRg t) :=
  pe_mono (pe_listRg hc hg hm (prg_1 hg2 hm2 ha na) nb) fun σ H Q ⟨Zo, Z, ρ, Qd, Ed, v, qq, l, m⟩ => ⟨Zo, Z, ρ, _, Ed, v, qq, fun x H1 d x1 g1 r1 ⟨n, ed, n0, n1, q1⟩ => by
    subst ed
    obtain rfl := Rb.int (b := b) (Z := Z) (H := H1) r1
    refine ⟨n, rfl, RgOk.of_le (by omega) (by omega) (by omega) (by omega), fun c hc => ?_⟩
    rw [rgV_ints]
    rw [rangeP_ints] at q1
    exact l _ _ (.py (.list _)) (x1.trans (Ex.new hc)) (Bg.new g1 hc) ⟨c, rfl, ((by
      cases e : H c with
      | none => rfl
      | some o =>
        by_cases hb : b.B c
        · exact absurd hc (b.dom _ _ g1 hb)
        · rw [x1 c o e hb] at hc; cases hc) : H c = none), _, upd_same, .of_ints _⟩ q1, m⟩
theorem ve_tupRg (hc : X.calm = true) (hg : Gl X "tuple") (hm : X.mg "tuple" = none) (hg2 : Gl X "range") (hm2 : X.mg "range" = none) (ha : VX X b W a t) (na : starEach [a] X.env = (false, eval a X.env) :: starEach [] X.env := by rfl)
    (nb : starEach [.Call (.Name "range" p2) [a] [] q] X.env = (false, eval (.Call (.Name "range" p2) [a] [] q) X.env) :: starEach [] X.env := by rfl) : VE X b W (.Call (.Name "tuple" p) [.Call (.Name "range" p2) [a] [] q] [] pos) (vTupRg t) :=
  pe_mono (pe_tupRgF hc hg hm (prg_1 hg2 hm2 ha na) nb) fun σ H Q ⟨Zo, Z, ρ, Qd, Ed, v, qq, l, m⟩ => ⟨Zo, Z, ρ, _, Ed, v, qq, fun x H1 d x1 g1 r1 ⟨n, ed, n0, n1, q1⟩ => by
    subst ed
    obtain rfl := Rb.int (b := b) (Z := Z) (H := H1) r1
    refine ⟨n, rfl, RgOk.of_le (by omega) (by omega) (by omega) (by omega), fun c o hc ho => ?_⟩
    rw [rgV_ints]
    rw [rangeP_ints] at q1
    refine l _ _ (.py (.tuple _)) (x1.trans (Ex.new hc)) (Bg.new g1 hc) ?_ q1
    exact Rq.tup upd_same ho ((v.ex x1 g1).fresh hc) (.of_ints _), m⟩
end
end VL
set_option Elab.async false
set_option linter.all false
set_option maxRecDepth 100000
set_option maxHeartbeats 4000000
/-! VL47: x = left.pop(k), left owned -/
namespace VL
open PySem PySem.Spec PyProof.Rows L2
@[simp] def sPopSet (i j : Nat) (te : VT) : VS := fun ρ De => ∃ ys, ρ[j]? = some (.own (.py (.list ys))) ∧ i ≠ j ∧ i < ρ.length ∧ ys.length ≤ sizeLine ∧
  te ρ (fun d => ∃ k : Nat, d = .py (.int (k : Nat)) ∧ ∃ p, ys[k]? = some p ∧ De.nx ((ρ.set j (.own (.py (.list (ys.eraseIdx k))))).set i (.shr (.py p)))) (De.ex ρ)
section
variable {X : Cx} {b : Bg} {W : WX} {o2 e : Expr} {i j : Nat} {x : Str} {te : VT} {pos pos' apos2 cpos2 : Pos}
theorem vs_popSet (hN : X.N.Nodup) (hi : X.N[i]? = some x) (hx : Loc X.env.scope x) (ho2 : PE X o2 (tVar j)) (he : VE X b W e te)
    (hb2 : attributeBase o2 "pop" X.env (eval o2 X.env) = eval o2 X.env := by rfl)
    (hf2 : ((backTo cpos2 (starEach [e] X.env)).all (fun x => !x.1) && (backToKw cpos2 (keywordEach [] X.env)).all (fun x => x.1.isSome)
      && decide ([e].length + ([] : List Keyword).length + (if ([] : List Keyword).isEmpty then 0 else 1) < 30)) = true := by rfl)
    (hl2 : (apos2.endLine == cpos2.line) = true := by rfl) (hs2 : starEach [e] X.env = (false, eval e X.env) :: starEach [] X.env := by rfl) (hp2 : (backTo cpos2 (starEach [] X.env)).any (·.1) = false := by rfl)
    (hs : swapsWith (.Call (.Attribute o2 "pop" apos2) [e] [] cpos2) (some (.Name x pos')) pos.line X.env = pure false := by rfl)
    (hf : X.fn x = true ∨ X.env.scope.names.lookup x = some .local := by first | exact .inl rfl | exact .inr rfl | assumption) :
    VSt X b W (.Assign [.Name x pos'] (.Call (.Attribute o2 "pop" apos2) [e] [] cpos2) pos) (sPopSet i j te) :=
  ps_mono (ps_set hN hi hx (pe_bm PySem.F.plainAttrs_list PySem.F.slot_list_pop PySem.F.type_list_pop mt_popAt ho2 (pa_cons he pa_nil hs2) hb2 hf2 hl2 hs2 hp2) hs hf) fun Dn σ H ⟨H0, M, Zo, Z, ρ, De, f, ⟨ys, e2, nij, hil, zy, q⟩, l⟩ => by
    obtain ⟨c, g1, g2, g3, cys, g4, g5⟩ := f.v.own j _ e2
    refine ⟨.ref c, g1, .inl ⟨rfl, cys, SqL.of g4⟩, Zo, Z, ρ, _, _, f.v, q, fun v H1 d x1 gg r1 ⟨k, ed, p, hp, q2⟩ => ?_, l.er f⟩
    subst ed
    obtain rfl := Rb.int (b := b) (Z := Z) (H := H1) (.inl r1)
    have f1 := f.ex x1 gg
    obtain ⟨c', g1', g2', g3', cys', g4', g5'⟩ := f1.v.own j _ e2
    rw [g1] at g1'; cases g1'
    obtain ⟨y, hy, ry⟩ := g5'.getP hp
    have hk : k < ys.length := (List.getElem?_eq_some_iff.mp hp).1
    have hlen : cys'.length = ys.length := g5'.length
    have hsl := sizeLine_eq
    have si : seqIndex? (k : Int) cys'.length = some k := by
      rw [seqIndex_of (by omega) (by omega)]; simp
    refine ⟨c, cys', (k : Int), k, y, rfl, rfl, g4', by omega, by omega, si, hy, ?_⟩
    have up_ : ∀ b2 u, H1 b2 = some u → ¬ Z b2 → upd H1 c (.lst (cys'.eraseIdx k)) b2 = some u := fun b2 u ee n => by
      rw [upd_ne (fun w => n (by rw [w]; exact g2))]
      exact ee
    have f2 := f1.mut (d' := .py (.list (ys.eraseIdx k))) e2 g1 ⟨cys'.eraseIdx k, upd_same, (g5'.erase k).mono (fun _ z => .inl z) up_⟩
    have ry2 : Rq Z (upd H1 c (.lst (cys'.eraseIdx k))) y p := ry.mono (fun _ z => .inl z) up_
    exact l.nx _ _ _ _ (f2.set (by rw [List.length_set]; exact hil) (d := .py p) ry2) q2
end
end VL
set_option Elab.async false
set_option linter.all false
set_option maxRecDepth 100000
set_option maxHeartbeats 4000000
/-! VL48: xs.insert(i, x), xs owned, i not below 0 -/
namespace VL
open PySem PySem.Spec PyProof.Rows L2
@[simp] def gIns : List PyData → List D → (D → List PyData → Prop) → Prop
  | p, [.py (.int i), .py x], Q => p.length < sizeLine ∧ 0 ≤ i ∧ i < 1000000000 ∧ Q (.py .none) (p.take i.toNat ++ [x] ++ p.drop i.toNat)
  | _, _, _ => False
theorem rd_ins {b : Bg} : MutD b (fun x vs H Q => ∃ (l : Addr) (xs : List V) (i : Int) (y : V), x = .ref l ∧ vs = [.int i, y] ∧ H l = some (.lst xs) ∧ xs.length < sizeLine ∧ 0 ≤ i ∧ i < 2 ^ 63 ∧
    Q .non (upd H l (.lst (xs.take i.toNat ++ [y] ++ xs.drop i.toNat)))) gIns := by
  intro Z H a xs vs p ds Q Qd h rx rv g k
  match ds, g, rv with
  | [.py (.int i), .py x], ⟨hl, h0, h1, q⟩, .cons (v := u) ru (.cons (v := v) rv .nil) =>
    have eu : u = .int i := Rb.int (b := b) (Z := Z) (H := H) (.inl ru)
    subst eu
    exact ⟨a, xs, i, v, rfl, rfl, h, by rw [rx.length]; exact hl, h0, by omega, k _ _ _ (.py .none) (((rx.take _).append (.cons rv .nil)).append (rx.drop _)) (Rq.non : Rq Z H .non .none) q⟩
section
variable {X : Cx} {b : Bg} {W : WX} {o e e2 : Expr} {ta : VA} {i : Nat} {apos cpos pos : Pos}
theorem vs_ins (ho : PE X o (tVar i)) (ha : VAs X b W [e, e2] ta) (hbase : attributeBase o "insert" X.env (eval o X.env) = eval o X.env := by rfl)
    (hfew : ((backTo cpos (starEach [e, e2] X.env)).all (fun x => !x.1) && (backToKw cpos (keywordEach [] X.env)).all (fun x => x.1.isSome)
      && decide ([e, e2].length + ([] : List Keyword).length + (if ([] : List Keyword).isEmpty then 0 else 1) < 30)) = true := by rfl)
    (hline : (apos.endLine == cpos.line) = true := by rfl) (hs : starEach [e, e2] X.env = (false, eval e X.env) :: starEach [e2] X.env := by rfl) (hplain : (backTo cpos (starEach [e2] X.env)).any (·.1) = false := by rfl)
    (hsw : swapsWith (.Call (.Attribute o "insert" apos) [e, e2] [] cpos) none pos.line X.env = pure false := by rfl) :
    VSt X b W (.Expr (.Call (.Attribute o "insert" apos) [e, e2] [] cpos) pos) (sMut i gIns ta) :=
  vs_mut PySem.F.slot_list_insert PySem.F.type_list_insert mt_insert rd_ins ho ha hbase hfew hline hs hplain hsw
end
end VL
set_option Elab.async false
set_option linter.all false
set_option maxRecDepth 100000
set_option maxHeartbeats 4000000
/-! VL49: xs.extend(ys), xs owned, ys a list -/
namespace VL
open PySem PySem.Spec PyProof.Rows L2
@[simp] def gExt : List PyData → List D → (D → List PyData → Prop) → Prop
  | p, [.py (.list z)], Q => p.length + z.length ≤ sizeLine ∧ Q (.py .none) (p ++ z)
  | _, _, _ => False
theorem rd_ext {b : Bg} : MutD b rExtend gExt := by
  intro Z H a xs vs p ds Q Qd h rx rv g k
  match ds, g, rv with
  | [.py (.list z)], ⟨hl, q⟩, .cons (v := u) ru .nil =>
    have ru' : Rq Z H u (.list z) := ru
    cases ru' with
    | lst hb nz rs => exact ⟨a, _, xs, _, rfl, rfl, h, hb, by rw [rx.length, rs.length]; exact hl, k _ _ _ (.py .none) (rx.append rs) (Rq.non : Rq Z H .non .none) q⟩
section
variable {X : Cx} {b : Bg} {W : WX} {o e : Expr} {ta : VA} {i : Nat} {apos cpos pos : Pos}
theorem vs_ext (ho : PE X o (tVar i)) (ha : VAs X b W [e] ta) (hbase : attributeBase o "extend" X.env (eval o X.env) = eval o X.env := by rfl)
    (hfew : ((backTo cpos (starEach [e] X.env)).all (fun x => !x.1) && (backToKw cpos (keywordEach [] X.env)).all (fun x => x.1.isSome)
      && decide ([e].length + ([] : List Keyword).length + (if ([] : List Keyword).isEmpty then 0 else 1) < 30)) = true := by rfl)
    (hline : (apos.endLine == cpos.line) = true := by rfl) (hs : starEach [e] X.env = (false, eval e X.env) :: starEach [] X.env := by rfl) (hplain : (backTo cpos (starEach [] X.env)).any (·.1) = false := by rfl)
    (hsw : swapsWith (.Call (.Attribute o "extend" apos) [e] [] cpos) none pos.line X.env = pure false := by rfl) :
    VSt X b W (.Expr (.Call (.Attribute o "extend" apos) [e] [] cpos) pos) (sMut i gExt ta) :=
  vs_mut PySem.F.slot_list_extend PySem.F.type_list_extend mt_extend rd_ext ho ha hbase hfew hline hs hplain hsw
end
end VL
set_option Elab.async false
set_option linter.all false
set_option maxRecDepth 100000
set_option maxHeartbeats 4000000
/-! VL50: *e among the items of a display or the arguments of a call -/
namespace VL
open PySem PySem.Spec PyProof.Rows L2 StX
@[simp] def vStar (t : VT) (u : VA) : VA := fun ρ Q E => t ρ (fun d => ∃ xs, (d = .py (.tuple xs) ∨ d = .py (.list xs)) ∧ u ρ (fun ds => Q (xs.map D.py ++ ds)) E) E
theorem Rps.app {b : Bg} {Z : Addr → Prop} {H : Hp} : ∀ {u : List V} {d : List D} {v : List V} {e : List D}, Rps b Z H u d → Rps b Z H v e → Rps b Z H (u ++ v) (d ++ e)
  | _, _, _, _, .nil, k => k
  | _, _, _, _, .cons r s, k => .cons r (s.app k)
section
variable {X : Cx} {b : Bg} {W : WX} {e : Expr} {es : List Expr} {t : VT} {u : VA} {p : Pos}
theorem va_star (h : VE X b W e t) (k : VAs X b W es u) (hs : starEach (.Starred e p :: es) X.env = (true, eval e X.env) :: starEach es X.env := by rfl) : VAs X b W (.Starred e p :: es) (vStar t u) :=
  pa_mono (pa_star h k hs) fun σ H Q ⟨Zo, Z, ρ, Qd, Ed, v, q, l, m⟩ => ⟨Zo, Z, ρ, _, Ed, v, q, fun x H1 d x1 g1 r1 ⟨xs, hd, q1⟩ => by
    have v1 := v.ex x1 g1
    rcases hd with rfl | rfl
    · have r1' : Rq Z H1 x (.tuple xs) := r1
      cases r1' with
      | tup ha da na qa =>
        exact ⟨_, _, rfl, .inl (SqT.th ha), Zo, Z, ρ, _, Ed, v1, q1, fun ys H2 ds x2 g2 r2 q2 => l _ H2 _ (x1.trans x2) g2 (Rps.app (v1.rqs x2 qa).to r2) q2, fun c y H2 er x2 g2 r2 q2 => m c y H2 er (x1.trans x2) g2 r2 q2⟩
    · have r1' : Rq Z H1 x (.list xs) := r1
      cases r1' with
      | lst ha na qa =>
        exact ⟨_, _, rfl, .inr (SqL.of ha), Zo, Z, ρ, _, Ed, v1, q1, fun ys H2 ds x2 g2 r2 q2 => l _ H2 _ (x1.trans x2) g2 (Rps.app (v1.rqs x2 qa).to r2) q2, fun c y H2 er x2 g2 r2 q2 => m c y H2 er (x1.trans x2) g2 r2 q2⟩, m⟩
end
end VL
set_option Elab.async false
set_option linter.all false
set_option maxRecDepth 100000
set_option maxHeartbeats 4000000
/-! VL51: sorted of a list of tuples of ints, in the order of tuples -/
namespace VL
open PySem PySem.Spec PyProof.Rows L2
def lexL : List Int → List Int → Bool
  | _, [] => false
  | [], _ :: _ => true
  | x :: xs, y :: ys => if x = y then lexL xs ys else decide (x < y)
theorem lexL_asym : ∀ x y, lexL x y = true → lexL y x = false
  | [], [], h => by simp [lexL] at h
  | _ :: _, [], h => by simp [lexL] at h
  | [], _ :: _, _ => rfl
  | x :: xs, y :: ys, h => by
    unfold lexL at h ⊢
    by_cases e : x = y
    · rw [if_pos e] at h; rw [if_pos e.symm]; exact lexL_asym xs ys h
    · rw [if_neg e] at h; rw [if_neg (Ne.symm e)]; simp at h ⊢; omega
theorem lexL_tr : ∀ x y z, lexL y x = false → lexL z y = false → lexL z x = false
  | [], y, z, h1, h2 => by cases z <;> rfl
  | x :: xs, [], z, h1, h2 => by simp [lexL] at h1
  | x :: xs, y :: ys, [], h1, h2 => by simp [lexL] at h2
  | x :: xs, y :: ys, z :: zs, h1, h2 => by
    unfold lexL at h1 h2 ⊢
    by_cases e1 : y = x
    · subst e1
      rw [if_pos rfl] at h1
      by_cases e2 : z = y
      · subst e2
        rw [if_pos rfl] at h2 ⊢
        exact lexL_tr xs ys zs h1 h2
      · rw [if_neg e2] at h2 ⊢; exact h2
    · rw [if_neg e1] at h1
      by_cases e2 : z = y
      · subst e2
        rw [if_neg e1]; exact h1
      · rw [if_neg e2] at h2
        have a : ¬ y < x := by simpa using h1
        have b : ¬ z < y := by simpa using h2
        rw [if_neg (by omega)]
        exact decide_eq_false (by omega)
theorem lexL_tot : ∀ x y, lexL x y = false → lexL y x = false → x = y
  | [], [], _, _ => rfl
  | _ :: _, [], _, h => by simp [lexL] at h
  | [], _ :: _, h, _ => by simp [lexL] at h
  | x :: xs, y :: ys, h1, h2 => by
    unfold lexL at h1 h2
    by_cases e : x = y
    · subst e
      rw [if_pos rfl] at h1 h2
      rw [lexL_tot xs ys h1 h2]
    · rw [if_neg e] at h1; rw [if_neg (Ne.symm e)] at h2
      simp at h1 h2; omega
/-- a tuple of ints -/
def IsTI (h : Heap) (v : Value) (ns : List Int) : Prop := ∃ a o its n, v = .ref a ∧ h.get? a = some o ∧ o.cls = .type "tuple" ∧ o.data = .seq its n ∧ IntsAre its.toList ns
theorem IsTI.keeps {h h' : Heap} {v : Value} {ns : List Int} (p : IsTI h v ns) (k : ∀ b o, h.get? b = some o → o.cls = .type "tuple" → h'.get? b = some o) : IsTI h' v ns := by
  obtain ⟨a, o, t, n, e, ho, hc, hd, hi⟩ := p
  exact ⟨a, o, t, n, e, k _ _ ho hc, hc, hd, hi⟩
section
variable {prog : Program} {w : World} {A : Around} {s : Shared} {E : Value → Shared → Prop}
theorem kat_ints {fin : Bool} : ∀ {xs ys : List Value} {ns ms : List Int} {i : Nat}, IntsAre xs ns → IntsAre ys ms → (fin = decide (xs.length < ys.length)) →
    PySem.W.KatLex prog w A true fin (fun r s' => s' = s ∧ r = lexL ns ms) (xs.zip ys) i s
  | _, _, _, _, i, .nil, .nil, hf => by exact PySem.W.kat_nil ⟨rfl, hf⟩
  | _, _, _, _, i, .cons n t r, .nil, hf => by exact PySem.W.kat_nil ⟨rfl, by rw [hf]; rfl⟩
  | _, _, _, _, i, .nil, .cons m u q, hf => by exact PySem.W.kat_nil ⟨rfl, by rw [hf]; simp [lexL]⟩
  | _, _, _, _, i, .cons (vs := xs) (ns := ns) n t r, .cons (vs := ys) (ns := ms) m u q, hf => by
    refine PySem.W.kat_cons (SeqAt.EqAt.int_int n t m u prog w _ _ ?_)
    refine PySem.W.kat_go (fun e1 => ?_) (fun e1 => ?_)
    · have ex : n = m := by simpa using e1
      have := kat_ints (fin := fin) (i := i + 1) r q (by rw [hf]; simp)
      refine PySem.W.kat_yes ?_
      have e3 : lexL (n :: ns) (m :: ms) = lexL ns ms := by unfold lexL; rw [if_pos ex]; cases ns <;> cases ms <;> rfl
      rw [e3]
      exact this
    · have ex : ¬ n = m := by simpa using e1
      have e3 : lexL (n :: ns) (m :: ms) = decide (n < m) := by unfold lexL; rw [if_neg ex]
      exact PySem.W.kat_no (TS.oneLt_ints _ ⟨rfl, e3.symm⟩)
theorem swo_ti (k : Value → List Int) : SrtO.Swo fun v u => lexL (k v) (k u) := ⟨fun x y h => lexL_asym _ _ h, fun x y z h1 h2 => lexL_tr _ _ _ h1 h2⟩
theorem firsts_ti {h : Heap} {k : Value → List Int} : ∀ {vs : List Value}, (∀ v ∈ vs, IsTI h v (k v) ∧ k v ≠ []) → ∃ fs : List Value, PySem.W.KatTups h vs fs ∧ fs.length = vs.length ∧ ∀ f ∈ fs, ∃ x t, f = Value.int x t
  | [], _ => ⟨[], PySem.W.KatTups.nil, rfl, fun _ hm => by simp at hm⟩
  | v :: vs, hp => by
    obtain ⟨fs, h1, h2, h3⟩ := firsts_ti (vs := vs) fun v' hm => hp v' (List.mem_cons_of_mem _ hm)
    obtain ⟨⟨a, o, its, n, e, ho, hc, hd, hi⟩, hne⟩ := hp v (List.mem_cons_self ..)
    obtain ⟨its⟩ := its
    cases hi' : its with
    | nil =>
      simp only [hi'] at hi
      cases hk : k v with
      | nil => exact absurd hk hne
      | cons a b => rw [hk] at hi; cases hi
    | cons f r =>
      have hi2 : IntsAre (f :: r) (k v) := by simpa [hi'] using hi
      obtain ⟨x, t, ef⟩ : ∃ x t, f = Value.int x t := SrtO.ints_mem hi2 f List.mem_cons_self
      subst e
      refine ⟨f :: fs, PySem.W.KatTups.cons ho hc hd (by simp [hi']) h1, by rw [List.length_cons, List.length_cons, h2], fun g hm => ?_⟩
      rcases List.mem_cons.mp hm with rfl | hm
      · exact ⟨x, t, ef⟩
      · exact h3 g hm
theorem ti_cmp {vs : List Value} {k : Value → List Int} (hp : ∀ v ∈ vs, IsTI s.heap v (k v)) : SrtO.Cmp prog w A s (tuples' true) (fun p => p.1 ∈ vs) (SrtO.lt2 fun v u => lexL (k v) (k u)) := by
  intro p q hm hm'
  obtain ⟨a, o, its, n, e, ho, hc, hd, hi⟩ := hp _ hm
  obtain ⟨a', o', its', n', e', ho', hc', hd', hi'⟩ := hp _ hm'
  show wpAny (model prog w) A (keyLt' (tuples' true) p.1 q.1) (fun r s' => s' = s ∧ r = lexL (k p.1) (k q.1)) (fun _ _ => False) s
  generalize k p.1 = ns at hi ⊢
  generalize k q.1 = ms at hi' ⊢
  rw [e, e']
  refine PySem.W.kat_lt ho hd ho' hd' ?_
  exact kat_ints hi hi' (by simp)
theorem tis_sortable {a : Addr} {vs : List Value} {k : Value → List Int} (h0 : 0 < vs.length) (hp : ∀ v ∈ vs, IsTI s.heap v (k v) ∧ k v ≠ []) (ha : ∀ o, s.heap.get? a = some o → o.cls ≠ .type "tuple") : SrtO.SortableO prog w A s a vs fun v u => lexL (k v) (k u) := by
  intro h' keep
  have hp' : ∀ v ∈ vs, IsTI h' v (k v) ∧ k v ≠ [] := fun v hm => ⟨(hp v hm).1.keeps fun b o e c => keep b o (fun z => by subst z; exact ha o e c) e, (hp v hm).2⟩
  obtain ⟨fs, h1, h2, h3⟩ := firsts_ti hp'
  refine ⟨tuples' true, fun Q E hq => ?_, ti_cmp fun v hv => (hp' v hv).1⟩
  refine PySem.W.kat_kind (T := .type "int") h1 (by omega) (fun f hm => ?_) (by rfl) ?_
  · obtain ⟨x, t, rfl⟩ := h3 f hm
    exact PySem.W.Looks.now
  · have e : (Value.type "int" != Value.type "tuple") = true := by first | decide +kernel | rfl | decide
    rw [e]
    exact hq
theorem sorted_tis {l : Addr} {vs : List Value} {k : Value → List Int} {Q : Value → Shared → Prop} (hl : s.heap.IsList l vs.toArray) (hz : vs.length ≤ sizeLine) (hp : ∀ v ∈ vs, IsTI s.heap v (k v) ∧ k v ≠ [])
    (h : ∀ (h' : Heap) (d : Addr) (out : List Value), SrtO.Srtd (fun v u => lexL (k v) (k u)) out → SrtO.Stb (fun v u => lexL (k v) (k u)) out vs → (∀ b o, s.heap.get? b = some o → h'.get? b = some o) → s.heap.objs.size ≤ d → (∃ n, h'.get? d = some (seqObj "list" out.toArray n)) → Q (.ref d) { s with heap := h' }) :
    wpAny (model prog w) A (call (.builtin "sorted") [.ref l]) Q E s := by
  refine SrtO.sorted_ord (swo_ti k) hl hz (fun h2 h₁ a ha kk => ?_) fun out hs hb => ?_
  · refine tis_sortable (s := { s with heap := h₁ }) (by omega) (fun v hm => ⟨(hp v hm).1.keeps fun b o e _ => (kk b o e).2, (hp v hm).2⟩) fun o e => ?_
    have e' : some o = some (seqObj "list" vs.toArray 0) := e.symm.trans ha
    cases e'
    intro c
    exact absurd (Value.type.inj c) (by decide)
  · exact h _ _ out hs hb (fun b o e => sortedAll_old e) (Nat.le_succ _) (sortedAll_at s.heap vs out.toArray)
end
def ltK (k : V → List Int) (u v : V) : Bool := lexL (k u) (k v)
theorem ltK_swo (k : V → List Int) : SrtO.Swo (ltK k) := ⟨fun x y h => lexL_asym _ _ h, fun x y z h1 h2 => lexL_tr _ _ _ h1 h2⟩
def rSortedTI (K : PySem.W.Frag) : List V → Hp → VK → Prop := fun vs H Q => ∃ (a : Addr) (xs : List V) (k : V → List Int), vs = [V.ref a] ∧ SqL K H a xs ∧ (∀ x ∈ xs, ∃ t, x = V.ref t ∧ SqT K H t ((k x).map V.int) ∧ k x ≠ []) ∧
  ∀ ys p, SrtO.Srtd (ltK k) ys → ys.Perm xs → H p = none → Q (.ref p) (upd H p (.lst ys))
section
variable {X : Cx}
theorem cr_sortedTI : CallR X (.builtin "sorted") (rSortedTI X.K) := by
  intro pins s σ H vs us Q I r h
  obtain ⟨a, xs, k, rfl, hs, hx, q⟩ := h
  obtain ⟨its, rv, hl, hz⟩ := I.list hs
  obtain ⟨u, rfl, ru⟩ := vals1 r
  obtain rfl : u = Value.ref a := ru
  obtain ⟨e1, e2⟩ := refs_back rv fun x m => by
    obtain ⟨t, e, _⟩ := hx x m
    exact ⟨t, e⟩
  refine sorted_tis (k := fun u => k (backV u)) hl.isList (by rw [← rv.length]; exact hz) (fun v hv => ?_) fun h' d out h1 h2 kp hd hn => ?_
  · obtain ⟨t, rfl⟩ := e2 v hv
    have hm : V.ref t ∈ xs := by rw [e1]; exact List.mem_map.mpr ⟨_, hv, rfl⟩
    obtain ⟨t', e, ht, hne⟩ := hx _ hm
    cases e
    obtain ⟨its2, r2, ⟨o, ho, hc, n, hd⟩, _⟩ := I.tuple ht
    exact ⟨⟨t, o, _, n, rfl, ho, hc, hd, by rw [List.toList_toArray]; exact r2.ints⟩, hne⟩
  · have h3 : ∀ u ∈ out, ∃ a, u = Value.ref a := fun u hu => e2 u (h2.perm.mem_iff.mp hu)
    obtain ⟨n, hn⟩ := hn
    have hb : SrtO.Stb (ltK k) (out.map backV) xs := by
      rw [e1]
      exact SrtO.Stb.map (ltK_swo k) backV h2
    refine ⟨.ref d, upd H d (.lst (out.map backV)), I.laid (t' := s.toks) kp hd ⟨?_, out, n, vals_back h3, hn⟩, rfl, q _ d (SrtO.srtd_map h1) hb.perm (I.hok.fresh hd)⟩
    rw [hb.len]
    exact hz
end
/-! ### over values -/
def sortT (L : List (List Int)) : List (List Int) := L.mergeSort fun a b => !lexL b a
theorem sortT_perm (L : List (List Int)) : (sortT L).Perm L := List.mergeSort_perm _ _
theorem sortT_sorted (L : List (List Int)) : (sortT L).Pairwise fun a b => lexL b a = false := by
  have := List.pairwise_mergeSort (le := fun a b : List Int => !lexL b a) (fun a b c h1 h2 => by
    simp only [Bool.not_eq_true'] at *
    exact lexL_tr _ _ _ h1 h2) (fun a b => by
    cases h : lexL b a with
    | false => rfl
    | true => rw [lexL_asym _ _ h]; rfl) L
  exact this.imp fun h => by simpa using h
theorem lex_perm_eq : ∀ {xs ys : List (List Int)}, xs.Perm ys → xs.Pairwise (fun a b => lexL b a = false) → ys.Pairwise (fun a b => lexL b a = false) → xs = ys
  | [], ys, h, _, _ => h.nil_eq
  | x :: xs, [], h, _, _ => (List.Perm.nil_eq h.symm).symm
  | x :: xs, y :: ys, h, h1, h2 => by
    rw [List.pairwise_cons] at h1 h2
    have e : x = y := by
      have m1 : x ∈ y :: ys := h.mem_iff.mp List.mem_cons_self
      have m2 : y ∈ x :: xs := h.mem_iff.mpr List.mem_cons_self
      rcases List.mem_cons.mp m1 with e | e
      · exact e
      · rcases List.mem_cons.mp m2 with e' | e'
        · exact e'.symm
        · exact lexL_tot _ _ (h2.1 x e) (h1.1 y e')
    subst e
    rw [lex_perm_eq (List.perm_cons _ |>.mp h) h1.2 h2.2]
theorem sortT_eq {L M : List (List Int)} (h : M.Perm L) (h1 : M.Pairwise fun a b => lexL b a = false) : M = sortT L := lex_perm_eq (h.trans (sortT_perm L).symm) h1 (sortT_sorted L)
@[simp] def gSortedT : List D → (D → Prop) → Prop
  | [.py (.list xs)], Q => ∃ L : List (List Int), xs = L.map tI ∧ (∀ l ∈ L, l ≠ []) ∧ Q (.py (.list ((sortT L).map tI)))
  | _, _ => False
theorem Rqs.each {Z : Addr → Prop} {H : Hp} {f : V → PyData} : ∀ {ys : List V}, (∀ y ∈ ys, Rq Z H y (f y)) → Rqs Z H ys (ys.map f)
  | [], _ => .nil
  | y :: ys, h => .cons (h y List.mem_cons_self) (Rqs.each fun z hz => h z (List.mem_cons_of_mem _ hz))
theorem keyFn {Z : Addr → Prop} {H : Hp} : ∀ {us : List V} {L : List (List Int)}, Rqs Z H us (L.map tI) → ∃ k : V → List Int, us.map k = L ∧ ∀ u ∈ us, Rq Z H u (tI (k u)) := by
  intro us L h
  classical
  refine ⟨fun u => if hu : ∃ ns, Rq Z H u (tI ns) then hu.choose else [], ?_⟩
  have uniq : ∀ {u : V} {a b : List Int}, Rq Z H u (tI a) → Rq Z H u (tI b) → a = b := fun {u a b} h1 h2 => by
    cases h1 with
    | tup e1 d1 n1 q1 =>
      cases h2 with
      | tup e2 d2 n2 q2 =>
        have e := e1.symm.trans e2
        injection e with e
        injection e with _ e
        injection e with e
        have h1 := q1.ints
        have h2 := q2.ints
        rw [h1, h2] at e
        exact (map_inj fun x y h => by injection h).mp e
  have key : ∀ {us : List V} {L : List (List Int)}, Rqs Z H us (L.map tI) → us.map (fun u => if hu : ∃ ns, Rq Z H u (tI ns) then hu.choose else []) = L ∧ ∀ u ∈ us, ∃ ns, Rq Z H u (tI ns) := by
    intro us
    induction us with
    | nil =>
      intro L h
      cases L with
      | nil => exact ⟨rfl, by simp⟩
      | cons l L => cases h
    | cons u us ih =>
      intro L h
      cases L with
      | nil => cases h
      | cons l L =>
        rw [List.map_cons] at h
        cases h with
        | cons r t =>
          obtain ⟨h1, h2⟩ := ih t
          have hu : ∃ ns, Rq Z H u (tI ns) := ⟨l, r⟩
          refine ⟨?_, fun v hv => ?_⟩
          · rw [List.map_cons, h1, dif_pos hu, uniq hu.choose_spec r]
          · rcases List.mem_cons.mp hv with rfl | hv
            · exact hu
            · exact h2 v hv
  obtain ⟨h1, h2⟩ := key h
  refine ⟨h1, fun u hu => ?_⟩
  have := h2 u hu
  simp only [dif_pos this]
  exact this.choose_spec
theorem rd_sortedT {K : PySem.W.Frag} {b : Bg} : CalD b (RN b) (rSortedTI K) gSortedT := by
  intro Z H vs ds Q Qd gd rx h k
  match ds, h, rx with
  | [.py (.list xs)], ⟨L, e, hne, h⟩, rx =>
    obtain ⟨x, rfl, r⟩ := rx.one
    obtain ⟨a, us, rfl, ha, qa⟩ := r.list
    rw [e] at qa
    obtain ⟨κ, hk1, hk2⟩ := keyFn qa
    refine ⟨a, us, κ, rfl, SqL.of ha, fun u hu => ?_, fun ys p hs hp hn => ?_⟩
    · have := hk2 u hu
      have hm : κ u ∈ L := by rw [← hk1]; exact List.mem_map_of_mem hu
      cases this with
      | tup e1 d1 n1 q1 =>
        have := q1.ints
        subst this
        exact ⟨_, rfl, SqT.th e1, hne _ hm⟩
    · have eL : ys.map κ = sortT L := by
        refine sortT_eq (by have := hp.map κ; rwa [hk1] at this) ?_
        rw [List.pairwise_map]
        exact hs
      refine k _ _ (.py (.list ((sortT L).map tI))) (Ex.new hn) (gd.new hn) ⟨p, rfl, hn, ys, upd_same, ?_⟩ h
      rw [← eL, List.map_map]
      have := Rqs.each (f := tI ∘ κ) fun y hy => hk2 y (hp.mem_iff.mp hy)
      exact this.up' hn
section
variable {X : Cx} {b : Bg} {W : WX} {e : Expr} {es : List Expr} {u : VA} {p pos : Pos}
theorem vn_sortedT (hg : Gl X "sorted") (hm : X.mg "sorted" = none) (ha : VXs X b W (e :: es) u) (he : starEach (e :: es) X.env = (false, eval e X.env) :: starEach es X.env := by rfl) (hpl : (backTo pos (starEach es X.env)).any (·.1) = false := by rfl) :
    VN X b W (.Call (.Name "sorted" p) (e :: es) [] pos) (vCal gSortedT u) := vn_callB cr_sortedTI rd_sortedT hg hm bb_sorted ha (by decide) (by decide) he hpl
end
end VL
set_option Elab.async false
set_option linter.all false
set_option maxRecDepth 100000
set_option maxHeartbeats 4000000
/-! VL52: defs that show values (repr within a def): called where nothing is being shown -/
namespace VL
open PySem PySem.Spec PyProof.Rows L2
structure FnL (P : Program) (w : World) (K : PySem.W.Frag) (mg : Str → Option Value) (base : Heap) (k : Nat) (f : Addr) (fd : FuncData) (ps : List Str) (sp : Sp) : Prop where
  len : ∀ vs H Q E, sp vs H Q E → vs.length = ps.length
  g : FnG P w K mg base k f fd ps sp
section
variable {P : Program} {w : World} {K : PySem.W.Frag} {mg : Str → Option Value} {base : Heap} {b : Bg} {k : Nat} {f : Addr} {fd : FuncData} {N ps : List Str} {S : SV} {st : Stmt} {x qual : Str}
theorem fnVG (F : Fun K x qual st f fd) (Sc : FnScope N ps (defScope st)) {t : VS} (hlen : ∀ ds Q E, S ds Q E → ds.length = ps.length) (hps : ps.length ≤ N.length)
    (hbody : ∀ (cdv : Value) (A : Around) (outer : List Env) (s : Shared) (H : Hp) (E : XK), Room k (A.deeper (envOfC qual (defScope st) s.heap.objs.size f cdv)) → (A.deeper (envOfC qual (defScope st) s.heap.objs.size f cdv)).guards = some [] →
      Takes (cxOf (L2.CX P w) P w K mg base N qual (defScope st) f cdv A outer s H E) (WF E) → VSs (cxOf (L2.CX P w) P w K mg base N qual (defScope st) f cdv A outer s H E) b (WF E) (defBody st) t)
    (hlaw : ∀ ds Q E, S ds Q E → t (envOf N.length ds) (fin Q E)) : FnL P w K mg base (k + 1) f fd ps (spV b S) := by
  have len : ∀ vs H Q E, spV b S vs H Q E → vs.length = ps.length := fun vs H Q E ⟨Z, ds, Qd, Ed, g, r, s, _⟩ => r.length.trans (hlen ds Qd Ed s)
  exact ⟨len, fnG F Sc len fun cdv A outer s H vs Q E hr hgd h => ⟨_, hbody cdv A outer s H E hr hgd (takes_of rfl rfl rfl rfl), fin_link hlaw (Nat.le_trans (Nat.le_of_eq (len _ _ _ _ h)) hps) h⟩⟩
end
structure CalG (P : Program) (w : World) (K : PySem.W.Frag) (mg : Str → Option Value) (base : Heap) (b : Bg) (k : Nat) (x : Str) (ps : List Str) (S : SV) where
  f : Addr
  fd : FuncData
  F : FnL P w K mg base k f fd ps (spV b S)
  g : mg x = some (.ref f)
  kp : PySem.W.keepIn K (.ref f) = true
  bd : Binds K fd ps []
section
variable {X : Cx} {b : Bg} {W : WX} {k j : Nat} {f : Addr} {fd : FuncData} {ps : List Str} {S : SV} {x : Str} {e : Expr} {es : List Expr} {u : VA} {p pos : Pos} {sp : Sp} {E : L2.St → XK} {t : TA}
theorem FnG.mono {P : Program} {w : World} {K : PySem.W.Frag} {mg : Str → Option Value} {base : Heap} {j k : Nat} {f : Addr} {fd : FuncData} {ps : List Str} {sp : Sp} (F : FnG P w K mg base j f fd ps sp) (h : j ≤ k) : FnG P w K mg base k f fd ps sp :=
  ⟨fun A outer s H args us vs Q E hr => F.run A outer s H args us vs Q E (hr.mono h)⟩
theorem run_fnL {pins : List (Addr × Obj)} {σ : L2.St} {H : Hp} {s : Shared} {Q : VK} {us : List Value} {vs : List V} {E : XK} (F : FnL X.prog X.w X.K X.mg X.base k f fd ps sp) (hr : Room k X.A) (hgd : X.A.guards = some []) (hb : Binds X.K fd ps []) (hx : PassesAt (L2.CX X.prog X.w) X σ E)
    (I : Inv X pins σ H s) (r : Vals vs us) (h : sp vs H Q E) : wpAny (model X.prog X.w) X.A (call (.ref f) us) (EP X pins σ Q) X.xe s := by
  have hl : us.length = ps.length := by rw [← r.length]; exact F.len _ _ _ _ h
  have b := hb s us I.kIn (by rw [List.append_nil]; exact hl)
  rw [List.append_nil] at b
  refine wpAny_call (codeAny_mono (F.g.run X.A X.stack s H ⟨us, []⟩ us vs Q E hr hgd I.env0 b r h) fun r s' hq => ?_)
  cases r with
  | error e => exact hx pins H s e s' I hq
  | ok fl =>
    cases fl with
    | ret u => exact I.after hq
    | next => exact False.elim hq
    | brk => exact False.elim hq
    | cont => exact False.elim hq
theorem pe_callL (F : FnL X.prog X.w X.K X.mg X.base k f fd ps sp) (hr : Room k X.A) (hgd : X.A.guards = some []) (hg : Gl X x) (hm : X.mg x = some (.ref f)) (hk : PySem.W.keepIn X.K (.ref f) = true) (hb : Binds X.K fd ps []) (hx : ∀ σ, PassesAt (L2.CX X.prog X.w) X σ (E σ))
    (ha : PA X (e :: es) t) (hdb : (x == ("__debug__" : Str)) = false := by decide) (he : starEach (e :: es) X.env = (false, eval e X.env) :: starEach es X.env := by rfl) (hpl : (backTo pos (starEach es X.env)).any (·.1) = false := by rfl) :
    PE X (.Call (.Name x p) (e :: es) [] pos) (tCallS sp E t) := by
  refine ⟨fun pins s σ H Q I h => ?_⟩
  refine wpAny_Call_Name_kw (ld_glob I hg hm ?_ hdb)
  refine PySem.W.callWith_K (h₀ := X.base) I.ok.mod.kin hk (thn (ha.run pos pins s σ H _ I h) fun us s1 ⟨vs, H1, I1, r, q⟩ => ⟨I1.kIn, ?_⟩) he hpl
  exact run_fnL F hr hgd hb (hx σ) I1 r q
theorem ve_calG (c : CalG X.prog X.w X.K X.mg X.base b k x ps S) (hgd : X.A.guards = some []) (hr : Room j X.A) (tk : Takes X W) (hg : Gl X x) (ha : VAs X b W (e :: es) u) (hk : k ≤ j := by decide) (hdb : (x == ("__debug__" : Str)) = false := by decide)
    (he : starEach (e :: es) X.env = (false, eval e X.env) :: starEach es X.env := by rfl) (hpl : (backTo pos (starEach es X.env)).any (·.1) = false := by rfl) : VE X b W (.Call (.Name x p) (e :: es) [] pos) (vCall S u) :=
  pe_mono (pe_callL c.F (hr.mono hk) hgd hg c.g c.kp c.bd (passAt tk) ha hdb he hpl) (call_core rfl rfl)
end
end VL
set_option Elab.async false
set_option linter.all false
set_option maxRecDepth 100000
set_option maxHeartbeats 4000000
/-! VL53: is True, is not True of bools -/
namespace VL
open PySem PySem.Spec PyProof.Rows L2
@[simp] def gIsB (neg : Bool) : D → D → (D → Prop) → Prop
  | .py (.bool a), .py (.bool b), Q => Q (.py (.bool (neg ^^ decide (a = b))))
  | _, _, _ => False
section
variable {X : Cx} {b : Bg} {W : WX} {e1 e2 : Expr} {t1 t2 : VT} {pos : Pos}
theorem rd_isB : OpD b (RE b) rIsB (gIsB false) := by
  intro Z H x y dx dy Q Qd gd rx ry h k
  match dx, dy, h, rx, ry with
  | .py (.bool a), .py (.bool c), h, rx, ry =>
    have h1 := rx.q
    have h2 := ry.q
    cases h1; cases h2
    exact ⟨a, c, rfl, rfl, k _ H (.py (.bool _)) Ex.refl gd.g (.bl _) (by simpa using h)⟩
theorem rd_notB : OpD b (RE b) rNotB (gIsB true) := by
  intro Z H x y dx dy Q Qd gd rx ry h k
  match dx, dy, h, rx, ry with
  | .py (.bool a), .py (.bool c), h, rx, ry =>
    have h1 := rx.q
    have h2 := ry.q
    cases h1; cases h2
    exact ⟨a, c, rfl, rfl, k _ H (.py (.bool _)) Ex.refl gd.g (.bl _) (by simpa using h)⟩
theorem ve_isB (h1 : VX X b W e1 t1) (h2 : VX X b W e2 t2) : VE X b W (.Compare e1 [.Is] [e2] pos) (vBin (gIsB false) t1 t2) := ve_cmp op_isBl rd_isB h1 h2 (nobehind _ (by decide) (by decide))
theorem ve_notB (h1 : VX X b W e1 t1) (h2 : VX X b W e2 t2) : VE X b W (.Compare e1 [.IsNot] [e2] pos) (vBin (gIsB true) t1 t2) := ve_cmp op_notBl rd_notB h1 h2 (nobehind _ (by decide) (by decide))
theorem vt_isB (h1 : VX X b W e1 t1) (h2 : VX X b W e2 t2) : VTe X b W (.Compare e1 [.Is] [e2] pos) (vTst (vBin (gIsB false) t1 t2)) := vt_cmp op_isBl rd_isB h1 h2 (nobehind _ (by decide) (by decide))
theorem vt_notB (h1 : VX X b W e1 t1) (h2 : VX X b W e2 t2) : VTe X b W (.Compare e1 [.IsNot] [e2] pos) (vTst (vBin (gIsB true) t1 t2)) := vt_cmp op_notBl rd_notB h1 h2 (nobehind _ (by decide) (by decide))
end
end VL
set_option Elab.async false
set_option linter.all false
set_option maxRecDepth 100000
set_option maxHeartbeats 4000000
/-! VL54: list(text) -/
namespace VL
open PySem PySem.Spec PyProof.Rows L2
theorem vals_signs : ∀ {xs : List Nat} {l : List Value}, l.length = xs.length → (∀ (j : Nat) (v : Value), l[j]? = some v → ∃ c u, xs[j]? = some c ∧ v = Value.str ⟨#[c]⟩ u) → Vals (xs.map fun c => V.str (mkS [c])) l
  | [], [], _, _ => Paired.nil
  | [], _ :: _, h, _ => by simp at h
  | _ :: _, [], h, _ => by simp at h
  | x :: xs, v :: l, h, hp => by
    obtain ⟨c, u, h1, h2⟩ := hp 0 v rfl
    have : x = c := by simpa using h1
    subst this
    exact Paired.cons (show RelV (V.str (mkS [x])) v from ⟨u, h2⟩) (vals_signs (by simpa using h) fun j v' hv => by
      obtain ⟨c, u, h3, h4⟩ := hp (j + 1) v' (by simpa using hv)
      exact ⟨c, u, by simpa using h3, h4⟩)
def rLstS : List V → Hp → VK → Prop := fun vs H Q => ∃ x : Str, vs = [V.str x] ∧ x.length ≤ sizeLine ∧ ∀ l, H l = none → Q (.ref l) (upd H l (.lst ((sl x).map fun c => V.str (mkS [c]))))
section
variable {X : Cx}
theorem cr_listS (hc : X.calm = true) : CallR X (.type "list") rLstS := by
  intro pins s σ H vs us Q I r h
  obtain ⟨x, rfl, hl, q⟩ := h
  obtain ⟨u, rfl, ru⟩ := vals1 r
  obtain ⟨t, rfl⟩ := ru
  have hh : X.A.handled = none := I.ok.hd hc
  refine call_list_str hh x t (fun h' tk acc c kp e hacc => ?_) hl
  have hv : Vals ((sl x).map fun c => V.str (mkS [c])) acc.toList := vals_signs (by
    rw [Array.length_toList, hacc.1]; rfl) fun j v hv => by
    obtain ⟨c, u, h1, h2⟩ := hacc.2 j v (by simpa using hv)
    exact ⟨c, u, by simpa [sl] using h1, h2⟩
  refine ⟨.ref s.heap.objs.size, _, I.laid (t' := tk) kp (Nat.le_refl _) (show ObjOk X.prog X.w _ h' _ (.lst _) from ⟨?_, acc.toList, c, hv, by simpa using e⟩), rfl, q _ (I.hok.fresh (Nat.le_refl _))⟩
  rw [List.length_map]
  exact hl
end
@[simp] def gListA : List D → (D → Prop) → Prop
  | [.py (.list xs)], Q => Q (.py (.list xs))
  | [.py (.tuple xs)], Q => Q (.py (.list xs))
  | [.py (.str z)], Q => z.length ≤ sizeLine ∧ Q (.py (.list (signsD z)))
  | _, _ => False
theorem rd_listA {K : PySem.W.Frag} {b : Bg} : CalD b (RN b) (fun xs H Q => (fun xs H Q => ∃ p ys, xs = [.ref p] ∧ (SqL K H p ys ∨ SqT K H p ys) ∧ ∀ l, H l = none → Q (.ref l) (upd H l (.lst ys))) xs H Q ∨ rLstS xs H Q) gListA := by
  intro Z H vs ds Q Qd gd rx h k
  match ds, h, rx with
  | [.py (.list xs)], h, rx => exact .inl (rd_list Z H vs [.py (.list xs)] Q Qd gd rx h k)
  | [.py (.tuple xs)], h, rx => exact .inl (rd_list Z H vs [.py (.tuple xs)] Q Qd gd rx h k)
  | [.py (.str z)], ⟨hl, h⟩, rx =>
    obtain ⟨x, rfl, r⟩ := rx.one
    have r' := r.q
    cases r'
    refine .inr ⟨z, rfl, hl, fun l hn => ?_⟩
    refine k _ _ (.py (.list (signsD z))) (Ex.new hn) (gd.new hn) ⟨l, rfl, hn, _, upd_same, ?_⟩ h
    exact rqs_signs (x := z)
section
variable {X : Cx} {b : Bg} {W : WX} {e : Expr} {es : List Expr} {u : VA} {p pos : Pos}
theorem vn_listA (hc : X.calm = true) (hg : Gl X "list") (hm : X.mg "list" = none) (ha : VXs X b W (e :: es) u) (he : starEach (e :: es) X.env = (false, eval e X.env) :: starEach es X.env := by rfl) (hpl : (backTo pos (starEach es X.env)).any (·.1) = false := by rfl) :
    VN X b W (.Call (.Name "list" p) (e :: es) [] pos) (vCal gListA u) := vn_callTy (CallR.or call_list_of (cr_listS hc)) rd_listA hg hm bb_list ha (by decide) (by decide) he hpl
end
end VL
set_option Elab.async false
set_option linter.all false
set_option maxRecDepth 100000
set_option maxHeartbeats 4000000
/-! VL55: () * k -/
namespace VL
open PySem PySem.Spec PyProof.Rows L2
open AutoSeq1 (wpAny_loadPart')
theorem tuple_mul0 (l : Addr) (n : Nat) (dd : Option Addr) (sl : Array (Option Value)) (x : Int) (u : Tok) (c0 : (decide (x < -(2 ^ 63)) || decide (x ≥ 2 ^ 63)) = false) :
    Meets (Builtin.«tuple.__mul__» ⟨[.ref l, .int x u], []⟩) (fun _ R s => s.heap.get? l = some { cls := .type "tuple", dict := dd, data := .seq #[] n, slots := sl } ∧ R (.ok (.ret (Value.ref l))) s) :=
  .of_wp fun prog w A R s h => by
    obtain ⟨hp, g, d, tk, os⟩ := s
    obtain ⟨hl, h⟩ := h
    have f1 := AutoSeq1.idx_int
    wp_walk using wpAny_loadPart' hl
    repeat (first
      | (refine wpAny_ite_false (decide_eq_false (by rw [c0]; exact Bool.false_ne_true)) ?_; wp_walk using wpAny_loadPart' hl))
    exact ⟨_, rfl, h⟩
def rRep0 (K : PySem.W.Frag) : R2 := fun x y H Q => ∃ l k, x = .ref l ∧ y = .int k ∧ SqT K H l [] ∧ 0 ≤ k ∧ k ≤ 1000 ∧ Q (.ref l) H
section
variable {X : Cx}
theorem op_rep0 : OpR X (binaryOp .Mult) (rRep0 X.K) := by
  intro pins s σ H x y v u Q I rx ry ⟨l, k, ex, ey, hT, h2, h3, q⟩
  subst ex ey
  obtain rfl : v = .ref l := rx
  obtain ⟨t, rfl⟩ := ry
  obtain ⟨its, r, ⟨o, ho, hc, n, hd⟩, hs⟩ := I.tuple hT
  obtain ⟨oc, dd, dt, slt⟩ := o
  obtain rfl : oc = .type "tuple" := hc
  obtain rfl : dt = .seq its.toArray n := hd
  cases r
  have road := tuple_mul0 l n dd slt k t (by simp; omega)
  refine wpAny_binaryOp_repeat_ref (U := "int") (T := "tuple") (by decide) ⟨_, ho, rfl⟩ (typeIs_int · k t) noFill_tuple_mul F.fills_int_mul F.slot_int_rmul repeat_tuple F.slot_int_index.lookup ?_
  refine call_meets F.slot_int_rmul (typeIs_int s k t) F.entry_int_rmul (F.args_int_rmul_2 _ _) (int_rmul_tuple k t l _ n dd slt) ⟨ho, rfl, ⟨_, ho, rfl⟩, ?_⟩
  exact call_meets F.slot_tuple_mul ⟨_, ho, rfl⟩ F.entry_tuple_mul (F.args_tuple_mul_2 _ _) road ⟨ho, ⟨.ref l, H, I, rfl, q⟩⟩
end
section
variable {X : Cx} {b : Bg} {W : WX} {e1 e2 : Expr} {t1 t2 : VT} {pos : Pos}
/-- .. of a tuple that may be empty -/
@[simp] def gMulT : D → D → (D → Prop) → Prop
  | .py (.tuple xs), .py (.int k), Q => (0 ≤ k ∧ 2 ≤ k ∧ k ≤ 1000 ∧ xs.length ≤ 1000) ∧ Q (.py (.tuple (List.replicate k.toNat xs).flatten))
  | _, _, _ => False
theorem rd_mulT : OpD b (RE b) (fun x y H Q => rRepF X.K x y H Q ∨ rRep0 X.K x y H Q) gMulT := by
  intro Z H x y dx dy Q Qd gd rx ry h k
  match dx, dy, h, rx, ry with
  | .py (.tuple xs), .py (.int n), ⟨⟨h0, h1, h2, h3⟩, h⟩, rx, ry =>
    have ey := ry.int
    obtain ⟨a, oa, us, rfl, ha, da, na, qa⟩ := rx.tuple
    cases xs with
    | nil =>
      cases qa
      have e : (List.replicate n.toNat ([] : List PyData)).flatten = [] := by
        rw [List.flatten_eq_nil_iff]; intro l hl; exact List.eq_of_mem_replicate hl
      rw [e] at h
      exact .inr ⟨a, n, rfl, ey, SqT.th ha, h0, h2, k _ H (.py (.tuple [])) Ex.refl gd.g (.tup ha da na .nil) h⟩
    | cons c cs =>
      refine .inl ⟨a, n, us, rfl, ey, SqT.th ha, fun e => ?_, h1, h2, by rw [qa.length]; exact h3, fun p o hp ho => k _ _ (.py (.tuple _)) (Ex.new hp) (gd.new hp) (.tup upd_same ho (gd.fresh hp) ?_) h⟩
      · subst e; cases qa
      · exact (qa.rep n.toNat).up hp
theorem ve_mulT (h1 : VX X b W e1 t1) (h2 : VX X b W e2 t2) : VE X b W (.BinOp e1 .Mult e2 pos) (vBin gMulT t1 t2) := ve_op (OpR.or op_repF op_rep0) rd_mulT h1 h2
end
end VL
set_option Elab.async false
set_option linter.all false
set_option maxRecDepth 100000
set_option maxHeartbeats 4000000
/-! VL56: a sign in a text -/
namespace VL
open PySem PySem.Spec PyProof.Rows L2 HT
open Builtin.Str in
theorem occ_full (z : Str) (c k lim : Nat) (st : Array Nat × Nat) (h2 : ¬ st.1.size < lim) : StrLaws.occBody z ⟨#[c]⟩ z.length lim k st = pure (ForInStep.yield (st.1, st.2)) := by
  unfold StrLaws.occBody
  rw [if_neg (fun q => h2 q.1.1.1)]
theorem occ_one (z : Str) (c : Nat) : ∀ (n k free : Nat) (acc : Array Nat), free ≤ k → k + n = z.length + 1 →
    (0 < (forIn (List.range' k n) (acc, free) (StrLaws.occBody z ⟨#[c]⟩ z.length 1)).run.fst.size ↔ (0 < acc.size ∨ c ∈ (sl z).drop k))
  | 0, k, free, acc, h1, h3 => by
    have : (sl z).drop k = [] := List.drop_eq_nil_of_le (by rw [slen]; omega)
    rw [this]; simp
  | n + 1, k, free, acc, h1, h3 => by
    rw [List.range'_succ, List.forIn_cons]
    by_cases ha : acc.size < 1
    · rw [occ_step z c k _ (acc, free) h1 (by show acc.size < _; omega)]
      by_cases hk : k < z.length
      · have hk' : k < (sl z).length := by rw [slen]; exact hk
        rw [List.drop_eq_getElem_cons hk', List.getElem?_eq_getElem hk']
        by_cases hc : (sl z)[k] = c
        · rw [if_pos (by rw [hc])]
          have := occ_one z c n (k + 1) (k + 1) (acc.push k) (by omega) (by omega)
          simp only [pure_bind]
          rw [this, Array.size_push]
          simp [hc]
        · rw [if_neg (by simpa using hc)]
          have := occ_one z c n (k + 1) free acc (by omega) (by omega)
          simp only [pure_bind]
          rw [this]
          have hc' : ¬ c = (sl z)[k] := fun e => hc e.symm
          have hm : (c ∈ (sl z)[k] :: (sl z).drop (k + 1)) ↔ c ∈ (sl z).drop (k + 1) := by
            rw [List.mem_cons]; exact ⟨fun h => h.resolve_left hc', .inr⟩
          rw [hm]
      · have e : (sl z).drop k = [] := List.drop_eq_nil_of_le (by rw [slen]; omega)
        rw [if_neg (by rw [List.getElem?_eq_none (by rw [slen]; omega)]; simp), e]
        have := occ_one z c n (k + 1) free acc (by omega) (by omega)
        have e2 : (sl z).drop (k + 1) = [] := List.drop_eq_nil_of_le (by rw [slen]; omega)
        rw [e2] at this
        simp only [pure_bind]
        exact this
    · rw [occ_full z c k 1 (acc, free) ha]
      have := occ_one z c n (k + 1) free acc (by omega) (by omega)
      simp only [pure_bind]
      rw [this]
      have : 0 < acc.size := by omega
      simp [this]
theorem contains_sign (z : Str) (c : Nat) : Txt.contains z (mkS [c]) = decide (c ∈ sl z) := by
  unfold Txt.contains
  have h := occ_one z c (z.length + 1 - 0) 0 0 #[] (by omega) (by omega)
  rw [StrLaws.occ_eq]
  have h' : 0 < (forIn (List.range' 0 (z.length + 1 - 0)) (#[], 0) (StrLaws.occBody z (mkS [c]) z.length 1)).run.fst.size ↔ c ∈ sl z := by
    refine h.trans ?_
    simp
  rw [Bool.eq_iff_iff, decide_eq_true_eq, ← h']
  generalize (forIn (List.range' 0 (z.length + 1 - 0)) (#[], 0) (StrLaws.occBody z (mkS [c]) z.length 1)).run.fst = A
  obtain ⟨A⟩ := A
  cases A <;> simp
@[simp] theorem contains_mkS (l : List Nat) (c : Nat) : Txt.contains (mkS l) (mkS [c]) = decide (c ∈ l) := by rw [contains_sign, sl_mkS]
end VL
set_option Elab.async false
set_option linter.all false
set_option maxRecDepth 100000
set_option maxHeartbeats 4000000
/-! VL57: x or y, where x is a text -/
namespace VL
open PySem PySem.Spec PyProof.Rows L2 HT
variable {X : Cx} {b : Bg} {W : WX} {e1 e2 : Expr} {es : List Expr} {pos : Pos} {t1 t2 : VT}
@[simp] def vOrS (ta tb : VT) : VT := fun ρ Q E => ta ρ (fun x => ∃ z : Str, x = .py (.str z) ∧ z.length ≤ 16777214 ∧ if z.length = 0 then tb ρ Q E else Q (.py (.str z))) E
theorem ve_orS (h1 : VX X b W e1 t1) (h2 : VE X b W (.BoolOp .Or (e2 :: es) pos) t2) : VE X b W (.BoolOp .Or (e1 :: e2 :: es) pos) (vOrS t1 t2) :=
  pe_mono (pe_orT h1 h2) fun σ H Q ⟨Zo, Z, ρ, Qd, Ed, v, q, l, m⟩ => ⟨Zo, Z, ρ, _, Ed, v, q, fun x H1 d x1 g1 r1 ⟨z, e, hz, q1⟩ => by
    subst e
    have ex := r1.str
    subst ex
    refine ⟨((z.length : Int) != 0), ⟨by rw [sizeLine_eq]; omega, rfl⟩, ?_⟩
    by_cases h : z.length = 0
    · rw [if_pos h] at q1
      rw [if_neg (by rw [h]; simp)]
      exact ⟨Zo, Z, ρ, _, Ed, v.ex x1 g1, q1, fun y H2 d2 x2 g2 r2 q2 => l y H2 d2 (x1.trans x2) g2 r2 q2, fun c z H2 er x2 g2 r2 q2 => m c z H2 er (x1.trans x2) g2 r2 q2⟩
    · rw [if_neg h] at q1
      rw [if_pos (by simp; omega)]
      exact l _ H1 (.py (.str z)) x1 g1 (Rq.str z) q1, m⟩
end VL
set_option Elab.async false
set_option linter.all false
set_option maxRecDepth 100000
set_option maxHeartbeats 4000000
namespace LawP
open PySem PySem.Spec PyProof.Rows L2 VL
def t_law_word (S_law_take : SV) : VS :=
  (sSeq (sPar [3, 4, 5] (mCons true (vLst vNil) (mCons false (vC (.py (.int 0))) (mCons false (vVar 1) mNil))))
  (sSeq (sWhile (vTst (vBin gGt (vBin gAdd (vBor 5) (vBor 4)) (vC (.py (.int 0)))))
  (sSeq (sSet 6 (vBin gIx (vLst (vCons (vCall S_law_take (vCons (vVar 0) (vCons (vC (.py (.int 2))) vNil))) (vCons (vC (.py (.int 1))) (vCons (vC (.py (.int 0))) (vCons (vCal gInt (vCons (vBin gGt (vCall S_law_take (vCons (vVar 0) (vCons (vC (.py (.int 5))) vNil))) (vC (.py (.int 0)))) vNil)) (vCons (vCal gInt (vCons (vBin gGt (vBor 4) (vC (.py (.int 2)))) vNil)) vNil)))))) (vBor 2)))
  (sIf (wOr (vTst (vBin gEq (vBor 5) (vC (.py (.int 0))))) (wAnd (vTst (vBin gGt (vBor 4) (vC (.py (.int 0))))) (vTst (vBin gEq (vBor 6) (vC (.py (.int 1)))))))
  (sSeq (sMut 3 gApp (vCons (vC (.py (.str "s"))) vNil))
  (sSet 4 (vBin gSub (vBor 4) (vC (.py (.int 1))))))
  (sSeq (sMut 3 gApp (vCons (vC (.py (.str "a"))) vNil))
  (sPar [4, 5] (mCons false (vBin gAdd (vBor 4) (vC (.py (.int 1)))) (mCons false (vBin gSub (vBor 5) (vC (.py (.int 1)))) mNil)))))))
  (sRet (vMth isS gTJoin (vC (.py (.str ""))) (vCons (vBor 3) vNil)))))
def t_law_odd (S_law_pick : SV) : VS :=
  (sSeq (sSet 1 (vLst (vCons (vC (.py .none)) (vCons (vC (.py (.bool true))) (vCons (vC (.py (.bool false))) (vCons (vUn gNeg (vC (.py (.int 1)))) (vCons (vC (.py (.int 0))) (vCons (vC (.py (.int 1))) (vCons (vC (.py (.int 40))) (vCons (vBin gAdd (vBin gPow (vC (.py (.int 10))) (vC (.py (.int 9)))) (vC (.py (.int 1)))) (vCons (vBin gPow (vC (.py (.int 10))) (vC (.py (.int 39)))) (vCons (vC (.py (.str ""))) (vCons (vC (.py (.str "a"))) (vCons (vC (.py (.str "as"))) (vCons (vC (.py (.str "0"))) (vCons (vTup vNil) (vCons (vLst vNil) (vCons vD0 (vCons (vTup (vCons (vC (.py (.int 0))) vNil)) (vCons (vLst (vCons (vC (.py (.int 0))) vNil)) (vCons (vTup (vCons (vC (.py (.bool true))) vNil)) vNil)))))))))))))))))))))
  (sRet (vCall S_law_pick (vCons (vVar 0) (vCons (vBin gAdd (vBor 1) (vLst (vCons (vTup (vCons (vC (.py (.str "a"))) (vCons (vC (.py (.str "s"))) vNil))) (vCons (vTup (vCons (vC (.py (.int 0))) (vCons (vC (.py (.int 0))) vNil))) (vCons (vC (.py (.str "none"))) (vCons (vD1 (.inr "a") (vC (.py (.int 0)))) (vCons (vTup (vCons (vC (.py (.int 1))) (vCons (vC (.py (.int 0))) vNil))) vNil))))))) vNil)))))
def t_law_twisted (S_law_take : SV) (S_law_pick : SV) : VS :=
  (sSeq (sSet 2 (vCall S_law_take (vCons (vVar 0) (vCons (vBin gAdd (vCal gLen (vCons (vBor 1) vNil)) (vC (.py (.int 1)))) vNil))))
  (sSeq (sSet 3 (vCall S_law_pick (vCons (vVar 0) (vCons (vLst (vCons (vC (.py (.str "a"))) (vCons (vC (.py (.str "s"))) (vCons (vC (.py (.str "x"))) (vCons (vC (.py (.str "A"))) (vCons (vC (.py (.str " "))) (vCons (vC (.py (.str "\n"))) (vCons (vC (.py (.str ""))) (vCons (vC (.py (.str "ss"))) (vCons (vC (.py (.str "aa"))) vNil)))))))))) vNil))))
  (sSeq (sSet 4 (vLst (vCons (vBin gAdd (vBin gAdd (vSl gSl (vBor 1) oNo (oAt (vBor 2))) (vBor 3)) (vSl gSl (vBor 1) (oAt (vBor 2)) oNo)) (vCons (vBin gAdd (vBin gAdd (vSl gSl (vBor 1) oNo (oAt (vBor 2))) (vBor 3)) (vSl gSl (vBor 1) (oAt (vBin gAdd (vBor 2) (vC (.py (.int 1))))) oNo)) (vCons (vBin gAdd (vSl gSl (vBor 1) oNo (oAt (vBor 2))) (vSl gSl (vBor 1) (oAt (vBin gAdd (vBor 2) (vC (.py (.int 1))))) oNo)) (vCons (vBkA (vBor 1) (oAt (vUn gNeg (vC (.py (.int 1)))))) vNil))))))
  (sRet (vCall S_law_pick (vCons (vVar 0) (vCons (vBin gAdd (vBor 4) (vLst (vCons (vSl gSl (vBor 1) oNo (oAt (vBor 2))) (vCons (vBin gAdd (vBor 1) (vBor 3)) (vCons (vBin gAdd (vSl gSl (vBor 1) (oAt (vBor 2)) oNo) (vSl gSl (vBor 1) oNo (oAt (vBor 2)))) vNil))))) vNil)))))))
def t_law_fault : VS :=
  (sSeq (sIf (wNot (vTst (vCal gIsi (vCons (vBor 1) (vCons (vC (.raw (.ty "str"))) vNil)))))
  (sRet (vTup (vCons (vC (.py .none)) (vCons (vC (.py (.str "string"))) vNil))))
  sNext)
  (sSeq (sFor (iR1 (vCons (vCal gLen (vCons (vBor 1) vNil)) vNil)) (tgName 2)
  (sIf (vTst (vBin (gIn true) (vBin gIx (vBor 1) (vBor 2)) (vLst (vCons (vC (.py (.str "a"))) (vCons (vC (.py (.str "s"))) vNil)))))
  (sRet (vTup (vCons (vVar 2) (vCons (vC (.py (.str "letter"))) vNil))))
  sNext))
  (sSeq (sFor (iR1 (vCons (vCal gLen (vCons (vBor 1) vNil)) vNil)) (tgName 2)
  (sSeq (sSet 3 (vSl gSl (vBor 1) oNo (oAt (vBor 2))))
  (sSeq (sIf (wAnd (vTst (vBin gEq (vBin gIx (vBor 1) (vBor 2)) (vC (.py (.str "a"))))) (vTst (vBin gEq (vMth isCt gCount (vBor 3) (vCons (vC (.py (.str "a"))) vNil)) (vCal gLen (vCons (vBor 0) vNil)))))
  (sRet (vTup (vCons (vVar 2) (vCons (vC (.py (.str "arrival"))) vNil))))
  sNext)
  (sIf (wAnd (vTst (vBin gEq (vBin gIx (vBor 1) (vBor 2)) (vC (.py (.str "s"))))) (vTst (vBin gEq (vMth isCt gCount (vBor 3) (vCons (vC (.py (.str "s"))) vNil)) (vMth isCt gCount (vBor 3) (vCons (vC (.py (.str "a"))) vNil)))))
  (sRet (vTup (vCons (vVar 2) (vCons (vC (.py (.str "service"))) vNil))))
  sNext))))
  (sRet (vC (.py .none))))))
def t_word_error : VS :=
  (sSeq (sIf (wNot (vTst (vCal gIsi (vCons (vBor 1) (vCons (vC (.raw (.ty "str"))) vNil)))))
  (sRet (vTup (vCons (vC (.py .none)) (vCons (vC (.py (.str "string"))) vNil))))
  sNext)
  (sSeq (sSet 2 (vLc [5, 6] (iEn (vCons (vBor 1) vNil)) (tgTup 2 (tgCons (tgName 5) (tgCons (tgName 6) tgNil))) (vTst (vBin (gIn true) (vBor 6) (vTup (vCons (vC (.py (.str "a"))) (vCons (vC (.py (.str "s"))) vNil))))) (vVar 5)))
  (sSeq (sIf (vTst (vBin gNe (vBor 2) (vLst vNil)))
  (sRet (vTup (vCons (vBin gIx (vBor 2) (vC (.py (.int 0)))) (vCons (vC (.py (.str "letter"))) vNil))))
  sNext)
  (sSeq (sPar [3, 4] (mCons false (vC (.py (.int 0))) (mCons false (vC (.py (.int 0))) mNil)))
  (sSeq (sFor (iEn (vCons (vVar 1) vNil)) (tgTup 2 (tgCons (tgName 5) (tgCons (tgName 6) tgNil)))
  (sIf (vTst (vBin gEq (vBor 6) (vC (.py (.str "a")))))
  (sSeq (sIf (vTst (vBin gEq (vBor 3) (vCal gLen (vCons (vBor 0) vNil))))
  (sRet (vTup (vCons (vVar 5) (vCons (vC (.py (.str "arrival"))) vNil))))
  sNext)
  (sAugA 3 gAugAdd (vC (.py (.int 1)))))
  (sSeq (sIf (vTst (vBin gEq (vBor 4) (vBor 3)))
  (sRet (vTup (vCons (vVar 5) (vCons (vC (.py (.str "service"))) vNil))))
  sNext)
  (sAugA 4 gAugAdd (vC (.py (.int 1)))))))
  (sRet (vC (.py .none))))))))
def t_is_history (S_word_error : SV) : VS :=
  (sRet (vAnd (vBin (gIsN false) (vCall S_word_error (vCons (vVar 0) (vCons (vVar 1) vNil))) (vC (.py .none))) (vBin gEq (vCal gLen (vCons (vBor 1) vNil)) (vBin gMulA (vC (.py (.int 2))) (vCal gLen (vCons (vBor 0) vNil))))))
end LawP
set_option Elab.async false
set_option linter.all false
set_option maxRecDepth 100000
set_option maxHeartbeats 4000000
namespace LawP
open PySem PySem.Spec PyProof.Rows L2 VL
def t_law_drawn (S_law_take : SV) (S_law_pick : SV) : VS :=
  (sSeq (sPar [2, 3] (mCons false (vBin gAdd (vC (.py (.int 1))) (vCall S_law_take (vCons (vVar 0) (vCons (vVar 1) vNil)))) (mCons false (vCall S_law_take (vCons (vVar 0) (vCons (vC (.py (.int 6))) vNil))) mNil)))
  (sSeq (sSet 4 (vBin gIx (vLst (vCons (vC (.py (.int 2))) (vCons (vC (.py (.int 3))) (vCons (vBin gAdd (vC (.py (.int 1))) (vBin gFdiv (vBor 2) (vC (.py (.int 3))))) (vCons (vVar 2) (vCons (vC (.py (.int 1))) (vCons (vC (.py (.int 4))) vNil))))))) (vBor 3)))
  (sSeq (sSet 5 (vLc [6] (iR1 (vCons (vBor 4) vNil)) (tgName 6) wYes (vCall S_law_pick (vCons (vVar 0) (vCons (vLst (vCons (vVar 6) (vCons (vBin gSub (vBin gPow (vC (.py (.int 10))) (vC (.py (.int 9)))) (vBor 6)) (vCons (vBin gAdd (vBin gMulA (vC (.py (.int 7))) (vBor 6)) (vCall S_law_take (vCons (vVar 0) (vCons (vC (.py (.int 7))) vNil)))) vNil)))) vNil)))))
  (sSeq (sIf (vTst (vBin gEq (vBor 3) (vC (.py (.int 5)))))
  (sRet (vCal gTuple (vCons (vLc [6] (iR1 (vCons (vBor 2) vNil)) (tgName 6) wYes (vBin gIx (vBor 5) (vBin gMod (vBin gFdiv (vBor 6) (vC (.py (.int 2)))) (vBor 4)))) vNil)))
  sNext)
  (sRet (vCal gTuple (vCons (vLc [6] (iR1 (vCons (vBor 2) vNil)) (tgName 6) wYes (vBin gIx (vBor 5) (vCall S_law_take (vCons (vVar 0) (vCons (vVar 4) vNil))))) vNil)))))))
def t_mates : VS :=
  (sSeq (sPar [1, 2] (mCons true (vLst vNil) (mCons true vD0 mNil)))
  (sSeq (sFor (iEn (vCons (vVar 0) vNil)) (tgTup 2 (tgCons (tgName 3) (tgCons (tgName 4) tgNil)))
  (sSeq (sMut 1 gApp (vCons (vDGet2 (vBor 2) (vVar 4) (vC (.py .none))) vNil))
  (sDPutO 2 (vVar 4) (vVar 3))))
  (sRet (vCal gTuple (vCons (vBor 1) vNil)))))
end LawP
set_option Elab.async false
set_option linter.all false
namespace LawP
open PySem VL
/-! ### mates: the mathematics -/
/-- the latest person before i of the group g -/
def lastIn (row : List Int) (g : Int) (i : Nat) : Option Nat := ((List.range i).filter fun j => row[j]? == some g).getLast?
def mateOf (row : List Int) (i : Nat) : Option Nat := (row[i]?).bind fun g => lastIn row g i
def matesL (row : List Int) : List (Option Nat) := (List.range row.length).map (mateOf row)
theorem lastIn_succ (row : List Int) (g : Int) (i : Nat) : lastIn row g (i + 1) = if row[i]? = some g then some i else lastIn row g i := by
  unfold lastIn
  rw [List.range_succ, List.filter_append]
  by_cases h : row[i]? = some g
  · rw [if_pos h]; simp [h]
  · rw [if_neg h]; simp [h]
theorem lastIn_some {row : List Int} {g : Int} {i m : Nat} (h : lastIn row g i = some m) : m < i ∧ row[m]? = some g ∧ ∀ j, m < j → j < i → row[j]? ≠ some g := by
  induction i with
  | zero => simp [lastIn] at h
  | succ i ih =>
    rw [lastIn_succ] at h
    split at h
    · rename_i c
      cases h
      exact ⟨Nat.lt_succ_self _, c, fun j h1 h2 => by omega⟩
    · rename_i c
      obtain ⟨a, b, d⟩ := ih h
      refine ⟨by omega, b, fun j h1 h2 => ?_⟩
      by_cases e : j = i
      · rw [e]; exact c
      · exact d j h1 (by omega)
theorem lastIn_none {row : List Int} {g : Int} {i : Nat} (h : lastIn row g i = none) : ∀ j, j < i → row[j]? ≠ some g := by
  induction i with
  | zero => intro j hj; omega
  | succ i ih =>
    rw [lastIn_succ] at h
    split at h
    · cases h
    · rename_i c
      intro j hj
      by_cases e : j = i
      · rw [e]; exact c
      · exact ih h j (by omega)
theorem mateOf_lt {row : List Int} {i m : Nat} (h : mateOf row i = some m) : m < i ∧ i < row.length := by
  unfold mateOf at h
  cases e : row[i]? with
  | none => rw [e] at h; cases h
  | some g =>
    rw [e] at h
    exact ⟨(lastIn_some h).1, (List.getElem?_eq_some_iff.mp e).1⟩
theorem mateOf_at {row : List Int} {i : Nat} {g : Int} (h : row[i]? = some g) : mateOf row i = lastIn row g i := by unfold mateOf; rw [h]; rfl
end LawP
set_option Elab.async false
set_option linter.all false
set_option maxRecDepth 100000
set_option maxHeartbeats 4000000
namespace LawP
open PySem PySem.Spec PyProof.Rows L2 VL
/-! ### mates -/
def matesP (row : List Int) : PyData := .tuple ((matesL row).map oN)
@[simp] def S_mates : SV := fun ds Q _ => ∃ row : List Int, ds = [.py (tI row)] ∧ row.length ≤ 1000 ∧ Q (.py (matesP row))
theorem l_mates : ∀ ds Q E, S_mates ds Q E → t_mates (envOf 5 ds) (fin Q E) := by
  rintro ds Q E ⟨row, rfl, hl, q⟩
  simp [t_mates, tI, -forGo]
  refine for_inv (fun i ρ => ∃ acc ds x y, ρ = [.shr (.py (tI row)), .own (.py (.list acc)), .own (.py (.dict ds)), x, y] ∧ acc = ((matesL row).take i).map oN ∧ ds.length ≤ i ∧ ∀ g, getD ds (.inl g) = (lastIn row g i).map pN) (fun i d ρ hd iv nx ct hn => ?_) (fun ρ iv => ?_) ⟨[], [], _, _, rfl, by simp, by simp, fun g => by simp [lastIn]⟩
  · obtain ⟨acc, ds, x, y, rfl, ea, h1, h2⟩ := iv
    obtain ⟨g, hg, rfl⟩ := enumP_getD hd
    have hi : i < row.length := (List.getElem?_eq_some_iff.mp hg).1
    have hm : (matesL row)[i]? = some (mateOf row i) := by simp [matesL, hi]
    have la : acc.length = i := by rw [ea]; simp [matesL]; omega
    simp [VL.keyOf, h2]
    refine ⟨by omega, by omega, (hn _ ⟨_, _, _, _, rfl, ?_, ?_, fun g' => ?_⟩).1⟩
    · rw [take_succ_get hm, List.map_append, ea, mateOf_at hg]
      cases lastIn row g i <;> rfl
    · have := putD_len ds (.inl g) (.int i)
      omega
    · rw [getD_putD, lastIn_succ, h2, hg]
      by_cases c : g' = g
      · subst c; simp [pN]
      · simp [c, Ne.symm c]
  · obtain ⟨acc, ds, x, y, rfl, ea, _, _⟩ := iv
    rw [List.take_of_length_le (by simp [matesL, enumP_len])] at ea
    subst ea
    simpa [matesP] using q
/-! ### a drawn row -/
@[simp] def S_law_drawn (r : Addr) : SV
  | [.raw v, .py (.int m)], Q, _ => v = .ref r ∧ 1 ≤ m ∧ m ≤ 40 ∧ ∀ gs : List Int, gs ≠ [] → gs.length ≤ m → (∀ g ∈ gs, 0 ≤ g ∧ g ≤ 1000000000) → Q (.py (.tuple (gs.map PyData.int)))
  | _, _, _ => False
theorem l_law_drawn (r : Addr) : ∀ ds Q E, S_law_drawn r ds Q E → t_law_drawn (svTake r) (svPick r) (envOf 7 ds) (fin Q E)
  | [.raw v, .py (.int m)], Q, E, ⟨hv, h1, h2, q⟩ => by
    subst hv
    simp [t_law_drawn]
    refine ⟨by omega, by omega, fun x x0 x1 w w0 w1 => ?_⟩
    obtain ⟨kn, ek, k1, k2⟩ : ∃ kn : Int, atI [PyData.int 2, PyData.int 3, PyData.int (1 + (1 + x).fdiv 3), PyData.int (1 + x), PyData.int 1, PyData.int 4] w = some (.int kn) ∧ 1 ≤ kn ∧ kn ≤ 40 := by
      have f3 : (1 + x).fdiv 3 = (1 + x) / 3 := Int.fdiv_eq_ediv_of_nonneg _ (by omega)
      rcases (by omega : w = 0 ∨ w = 1 ∨ w = 2 ∨ w = 3 ∨ w = 4 ∨ w = 5) with rfl | rfl | rfl | rfl | rfl | rfl
      · exact ⟨2, rfl, by omega, by omega⟩
      · exact ⟨3, rfl, by omega, by omega⟩
      · exact ⟨_, rfl, by rw [f3]; omega, by rw [f3]; omega⟩
      · exact ⟨_, rfl, by omega, by omega⟩
      · exact ⟨1, rfl, by omega, by omega⟩
      · exact ⟨4, rfl, by omega, by omega⟩
    refine ⟨_, ek, ?_⟩
    simp
    refine ⟨⟨by omega, by omega⟩, ?_⟩
    refine lc_mem (fun p => ∃ g, p = .int g ∧ (0 ≤ g ∧ g ≤ 1000000000)) (fun d hd k hk => ?_) (by simp; omega) fun ps hl hps => ?_
    · obtain ⟨j, hj, rfl⟩ := mem_rangeP hd
      have hj' : (j : Int) < 40 := by omega
      simp [lcStep, AllIn]
      intro y y0 y1
      exact ⟨hk _ ⟨_, rfl, by omega, by omega⟩, hk _ ⟨_, rfl, by omega, by omega⟩, hk _ ⟨_, rfl, by omega, by omega⟩⟩
    obtain ⟨ns, rfl, hns⟩ := ints_of hps
    simp at hl
    have fin : ∀ ps : List PyData, ps.length = (1 + x).toNat → (∀ p ∈ ps, ∃ g, p = PyData.int g ∧ (0 ≤ g ∧ g ≤ 1000000000)) → Q (.py (.tuple ps)) := fun ps e h => by
      obtain ⟨gs, rfl, hg⟩ := ints_of h
      simp at e
      exact q gs (fun z => by rw [z] at e; simp at e; omega) (by omega) hg
    have at_ : ∀ i : Int, 0 ≤ i → i < kn → ∃ d, atI (ns.map PyData.int) i = some d ∧ ∃ g, d = .int g ∧ (0 ≤ g ∧ g ≤ 1000000000) := fun i i0 i1 => by
      obtain ⟨d, e, m⟩ := atI_ok (xs := ns.map PyData.int) i0 (by simp; omega)
      obtain ⟨g, hg, rfl⟩ := List.mem_map.mp m
      exact ⟨_, e, g, rfl, hns g hg⟩
    simp
    split
    · refine ⟨⟨by omega, by omega⟩, lc_mem (fun p => ∃ g, p = .int g ∧ (0 ≤ g ∧ g ≤ 1000000000)) (fun d hd k hk => ?_) (by simp; omega) fun ps hl hps => ?_⟩
      · obtain ⟨j, hj, rfl⟩ := mem_rangeP hd
        simp [lcStep]
        refine ⟨by omega, ?_⟩
        obtain ⟨d, e, hd⟩ := at_ _ (Int.emod_nonneg ((j : Int).fdiv 2) (by omega : kn ≠ 0)) (Int.emod_lt_of_pos _ (by omega))
        exact ⟨d, e, hk d hd⟩
      · simp at hl ⊢
        exact fin ps hl hps
    · refine ⟨⟨by omega, by omega⟩, lc_mem (fun p => ∃ g, p = .int g ∧ (0 ≤ g ∧ g ≤ 1000000000)) (fun d hd k hk => ?_) (by simp; omega) fun ps hl hps => ?_⟩
      · obtain ⟨j, hj, rfl⟩ := mem_rangeP hd
        simp [lcStep]
        refine ⟨by omega, by omega, fun y y0 y1 => ?_⟩
        obtain ⟨d, e, hd⟩ := at_ y y0 y1
        exact ⟨d, e, hk d hd⟩
      · simp at hl ⊢
        exact fin ps hl hps
end LawP
set_option Elab.async false
set_option linter.all false
namespace LawP
open PySem VL
/-! ### words: the mathematics -/
abbrev cA : Nat := 97
abbrev cS : Nat := 115
def isL (c : Nat) : Bool := c == 97 || c == 115
/-- the places of signs that are no letters -/
def badW (w : List Nat) : List Nat := (w.zipIdx.filter fun p => !isL p.1).map (·.2)
/-- the first arrival or service too many: n persons, from place k on, behind a arrivals and s services -/
def scanP (n : Nat) : Nat → Nat → Nat → List Nat → PyData
  | _, _, _, [] => .none
  | k, a, s, c :: w => if c = 97 then (if a = n then .tuple [.int k, .str "arrival"] else scanP n (k + 1) (a + 1) s w) else (if s = a then .tuple [.int k, .str "service"] else scanP n (k + 1) a (s + 1) w)
def wErrL (n : Nat) (w : List Nat) : PyData := match badW w with
  | i :: _ => .tuple [.int (i : Nat), .str "letter"]
  | [] => scanP n 0 0 0 w
def wErr (n : Nat) : PyData → PyData
  | .str z => wErrL n (sl z)
  | _ => .tuple [.none, .str "string"]
theorem badW_none {w : List Nat} (h : badW w = []) : ∀ c ∈ w, isL c = true := by
  intro c hc
  unfold badW at h
  rw [List.map_eq_nil_iff, List.filter_eq_nil_iff] at h
  obtain ⟨i, hi⟩ := List.getElem?_of_mem hc
  have := h (c, i) (by rw [List.mem_zipIdx_iff_getElem?]; exact hi)
  simpa using this
theorem badW_cons {w : List Nat} {i : Nat} {r : List Nat} (h : badW w = i :: r) : ∃ c, w[i]? = some c ∧ isL c = false ∧ ∀ j, j < i → ∀ d, w[j]? = some d → isL d = true := by
  have go : ∀ (w : List Nat) (k : Nat), ((w.zipIdx k).filter fun p => !isL p.1).map (·.2) = i :: r → ∃ c, k ≤ i ∧ w[i - k]? = some c ∧ isL c = false ∧ ∀ j, j < i - k → ∀ d, w[j]? = some d → isL d = true := by
    intro w
    induction w with
    | nil => intro k h; simp at h
    | cons c w ih =>
      intro k h
      rw [List.zipIdx_cons, List.filter_cons] at h
      by_cases hc : isL c = true
      · rw [if_neg (by simp [hc])] at h
        obtain ⟨d, h1, h2, h3, h4⟩ := ih (k + 1) h
        refine ⟨d, by omega, ?_, h3, fun j hj e he => ?_⟩
        · have : i - k = (i - (k + 1)) + 1 := by omega
          rw [this, List.getElem?_cons_succ]; exact h2
        · cases j with
          | zero => simp at he; subst he; exact hc
          | succ j => exact h4 j (by omega) e (by simpa using he)
      · rw [if_pos (by simpa using hc)] at h
        simp at h
        have : i = k := h.1.symm
        subst this
        exact ⟨c, Nat.le_refl _, by simp, by simpa using hc, fun j hj => by omega⟩
  obtain ⟨c, _, h2, h3, h4⟩ := go w 0 h
  exact ⟨c, by simpa using h2, h3, fun j hj d hd => h4 j (by simpa using hj) d hd⟩
theorem badW_first {w : List Nat} {j c : Nat} (hc : w[j]? = some c) (hn : isL c = false) (h : ∀ i, i < j → ∀ d, w[i]? = some d → isL d = true) : ∃ r, badW w = j :: r := by
  cases e : badW w with
  | nil =>
    have := badW_none e c (List.mem_of_getElem? hc)
    rw [hn] at this; cases this
  | cons i r =>
    obtain ⟨d, h1, h2, h3⟩ := badW_cons e
    rcases Nat.lt_trichotomy i j with l | l | l
    · have := h i l d h1
      rw [h2] at this; cases this
    · exact ⟨r, by rw [l]⟩
    · have := h3 j l c hc
      rw [hn] at this; cases this
theorem badW_nil {w : List Nat} (h : ∀ (i : Nat) d, w[i]? = some d → isL d = true) : badW w = [] := by
  cases e : badW w with
  | nil => rfl
  | cons i r =>
    obtain ⟨d, h1, h2, h3⟩ := badW_cons e
    have := h i d h1
    rw [h2] at this; cases this
/-- w is what is left of a history of n persons, behind a arrivals and s services -/
def goodW (n : Nat) : Nat → Nat → List Nat → Prop
  | a, s, [] => a = n ∧ s = n
  | a, s, c :: w => (c = 97 ∧ a < n ∧ goodW n (a + 1) s w) ∨ (c = 115 ∧ s < a ∧ goodW n a (s + 1) w)
/-- histories -/
def HistW (n : Nat) (w : List Nat) : Prop := goodW n 0 0 w
theorem goodW_len {n : Nat} : ∀ {w : List Nat} {a s : Nat}, goodW n a s w → w.length + a + s = 2 * n
  | [], a, s, ⟨h1, h2⟩ => by simp; omega
  | c :: w, a, s, h => by
    rcases h with ⟨_, _, h⟩ | ⟨_, _, h⟩
    · have := goodW_len h; simp; omega
    · have := goodW_len h; simp; omega
theorem HistW.len {n : Nat} {w : List Nat} (h : HistW n w) : w.length = 2 * n := by have := goodW_len h; omega
theorem goodW_let {n : Nat} : ∀ {w : List Nat} {a s : Nat}, goodW n a s w → ∀ c ∈ w, c = 97 ∨ c = 115
  | [], _, _, _, c, h => by simp at h
  | d :: w, a, s, h, c, hc => by
    rcases List.mem_cons.mp hc with rfl | hc
    · exact h.elim (fun q => .inl q.1) fun q => .inr q.1
    · exact h.elim (fun q => goodW_let q.2.2 c hc) fun q => goodW_let q.2.2 c hc
end LawP
set_option Elab.async false
set_option linter.all false
set_option maxRecDepth 100000
set_option maxHeartbeats 4000000
namespace LawP
open PySem PySem.Spec PyProof.Rows L2 VL
@[simp] theorem lit_a : Str.ofString "a" = mkS [97] := by decide +kernel
@[simp] theorem lit_s : Str.ofString "s" = mkS [115] := by decide +kernel
@[simp] theorem lit_e : Str.ofString "" = mkS [] := by decide +kernel
@[simp] theorem lit_as : Str.ofString "as" = mkS [97, 115] := by decide +kernel
def isSm (p : PyData) : Prop := ∀ z, p = .str z → z.length ≤ 100000
theorem mkS_cps (l : List Nat) : sl (mkS l) = l := sl_mkS l
theorem str_ex (z : Str) : ∃ w, z = mkS w := ⟨sl z, (mkS_sl z).symm⟩
/-! ### word_error -/
@[simp] def S_word_error : SV
  | [.py (.tuple xs), .py p], Q, _ => isSm p ∧ Q (.py (wErr xs.length p))
  | _, _, _ => False
theorem l_word_error : ∀ ds Q E, S_word_error ds Q E → t_word_error (envOf 7 ds) (fin Q E)
  | [.py (.tuple xs), .py (.str z)], Q, E, ⟨hs, q⟩ => by
    obtain ⟨w, rfl⟩ := str_ex z
    have hw : w.length ≤ 100000 := by have := hs _ rfl; simpa using this
    simp [t_word_error, -forGo, -lcGo, signsD_mkS, enumP_enc]
    refine lc_encF' (encE encC) (fun p => !isL p.1) (fun p => pN p.2) (fun i p hp k h1 h2 => ?_) (by simp; omega) ?_
    · obtain ⟨c, hc, rfl⟩ := zipIdx_at hp
      simp [lcStep, isL] at h1 h2 ⊢
      by_cases a1 : c = 97
      · subst a1; simpa using h2
      · by_cases a2 : c = 115
        · subst a2; simpa using h2
        · have b1 : ¬ 97 = c := fun e => a1 e.symm
          have b2 : ¬ 115 = c := fun e => a2 e.symm
          simp [a1, a2, b1, b2] at h1 ⊢
          exact h1
    · have eb : (List.map (fun p => pN p.2) (List.filter (fun p => !isL p.1) w.zipIdx)) = (badW w).map pN := by simp [badW]
      rw [eb]
      have q' : Q (.py (wErrL xs.length w)) := by simpa [wErr] using q
      unfold wErrL at q'
      cases hb : badW w with
      | cons i r =>
        rw [hb] at q'
        simpa [pN] using q'
      | nil =>
        rw [hb] at q'
        have hL := badW_none hb
        simp [-forGo]
        refine for_enc' (encE encC) (fun k ρ => ∃ a s x y, ρ = [.shr (.py (.tuple xs)), .shr (.py (.str (mkS w))), .shr (.py (.list [])), .shr (.py (.int (a : Nat))), .shr (.py (.int (s : Nat))), x, y] ∧ Q (.py (scanP xs.length k a s (w.drop k)))) ⟨0, 0, _, _, rfl, q'⟩ (fun k p ρ hp iv nx ct hn => ?_) (fun ρ iv => ?_)
        · obtain ⟨a, s, x, y, rfl, h⟩ := iv
          obtain ⟨c, hc, rfl⟩ := zipIdx_at hp
          have hk : k < w.length := (List.getElem?_eq_some_iff.mp hc).1
          have hd : w.drop k = c :: w.drop (k + 1) := by
            rw [List.drop_eq_getElem_cons hk]
            congr 1
            exact (List.getElem?_eq_some_iff.mp hc).2
          rw [hd] at h
          unfold scanP at h
          have hl := hL c (List.mem_of_getElem? hc)
          simp
          by_cases c1 : c = 97
          · subst c1
            rw [if_pos rfl] at h
            simp
            by_cases e : a = xs.length
            · subst e
              rw [if_pos rfl] at h
              simpa using h
            · rw [if_neg e] at h
              have e' : ¬ (a : Int) = (xs.length : Int) := by omega
              simp [e, e']
              exact (hn _ ⟨a + 1, s, _, _, rfl, h⟩).1
          · rw [if_neg c1] at h
            simp [c1]
            by_cases e : s = a
            · subst e
              rw [if_pos rfl] at h
              simpa using h
            · rw [if_neg e] at h
              have e' : ¬ (s : Int) = (a : Int) := by omega
              simp [e, e']
              exact (hn _ ⟨a, s + 1, _, _, rfl, h⟩).1
        · obtain ⟨a, s, x, y, rfl, h⟩ := iv
          rw [List.drop_eq_nil_of_le (by simp)] at h
          exact h
  | [.py (.tuple xs), .py .none], Q, E, q | [.py (.tuple xs), .py (.bool _)], Q, E, q | [.py (.tuple xs), .py (.int _)], Q, E, q | [.py (.tuple xs), .py (.list _)], Q, E, q | [.py (.tuple xs), .py (.tuple _)], Q, E, q | [.py (.tuple xs), .py (.dict _)], Q, E, q => by simpa [t_word_error, wErr] using q.2
/-! ### is_history -/
def isHist (n : Nat) (p : PyData) : Bool := match p with
  | .str z => isNn (wErr n (.str z)) && decide (z.length = 2 * n)
  | _ => false
@[simp] def S_is_history : SV
  | [.py (.tuple xs), .py p], Q, _ => isSm p ∧ xs.length ≤ 100000 ∧ Q (.py (.bool (isHist xs.length p)))
  | _, _, _ => False
theorem l_is_history : ∀ ds Q E, S_is_history ds Q E → t_is_history S_word_error (envOf 2 ds) (fin Q E)
  | [.py (.tuple xs), .py (.str z)], Q, E, ⟨hs, hx, q⟩ => by
    have hz := hs z rfl
    simp [t_is_history, isHist, -isNn] at q ⊢
    refine ⟨hs, ?_⟩
    cases hn : isNn (wErr xs.length (.str z)) with
    | false => simpa [hn, -isNn] using q
    | true =>
      simp [hn, -isNn] at q ⊢
      have e : ((z.length : Int) == 2 * (xs.length : Int)) = decide (z.length = 2 * xs.length) := by
        by_cases h : z.length = 2 * xs.length
        · rw [h]; simp
        · rw [decide_eq_false h, beq_eq_false_iff_ne]; omega
      rw [e]
      exact ⟨by omega, q⟩
  | [.py (.tuple xs), .py .none], Q, E, q | [.py (.tuple xs), .py (.bool _)], Q, E, q | [.py (.tuple xs), .py (.int _)], Q, E, q | [.py (.tuple xs), .py (.list _)], Q, E, q | [.py (.tuple xs), .py (.tuple _)], Q, E, q | [.py (.tuple xs), .py (.dict _)], Q, E, q => by
    simpa [t_is_history, isHist, wErr, isSm] using q.2.2
/-! ### what is drawn -/
def odds : List PyData := [.none, .bool true, .bool false, .int (-1), .int 0, .int 1, .int 40, .int 1000000001, .int 1000000000000000000000000000000000000000, .str "", .str "a", .str "as", .str "0", .tuple [], .list [], .dict [], .tuple [.int 0], .list [.int 0], .tuple [.bool true], .tuple [.str "a", .str "s"], .tuple [.int 0, .int 0], .str "none", .dict [(.str "a", .int 0)], .tuple [.int 1, .int 0]]
theorem odds_sw : ∀ p ∈ odds, Sw 160 2 p := by decide +kernel
@[simp] def S_law_odd (r : Addr) : SV
  | [.raw v], Q, _ => v = .ref r ∧ ∀ p ∈ odds, Q (.py p)
  | _, _, _ => False
theorem l_law_odd (r : Addr) : ∀ ds Q E, S_law_odd r ds Q E → t_law_odd (svPick r) (envOf 2 ds) (fin Q E)
  | [.raw v], Q, E, ⟨hv, q⟩ => by
    subst hv
    simp [t_law_odd, AllIn]
    intro y hy
    exact q y (by simpa [odds, or_assoc] using hy)
@[simp] def S_law_word (r : Addr) : SV
  | [.raw v, .py (.int m), .py (.int way)], Q, _ => v = .ref r ∧ 0 ≤ m ∧ m ≤ 1000 ∧ 0 ≤ way ∧ way < 5 ∧ ∀ w : List Nat, HistW m.toNat w → Q (.py (.str (mkS w)))
  | _, _, _ => False
theorem l_law_word (r : Addr) : ∀ ds Q E, S_law_word r ds Q E → t_law_word (svTake r) (envOf 7 ds) (fin Q E)
  | [.raw v, .py (.int m), .py (.int way)], Q, E, ⟨hv, m0, m1, w0, w1, q⟩ => by
    subst hv
    obtain ⟨n, rfl⟩ := Int.eq_ofNat_of_zero_le m0
    simp [t_law_word]
    refine ⟨fun k ρ => ∃ (acc : List Nat) (a s : Nat) (x : VL.Slot), ρ = [.shr (.raw (.ref r)), .shr (.py (.int (n : Nat))), .shr (.py (.int way)), .own (.py (.list (acc.map encC))), .shr (.py (.int ((a : Int) - s))), .shr (.py (.int ((n : Int) - a))), x] ∧ s ≤ a ∧ a ≤ n ∧ acc.length = a + s ∧ k = 2 * n - a - s ∧ (∀ w, goodW n a s w → HistW n (acc ++ w)),
      ⟨_, [], 0, 0, _, by simp; rfl, by omega, by omega, rfl, rfl, fun w h => h⟩, ?_⟩
    rintro k ρ ⟨acc, a, s, x, rfl, h1, h2, h3, h4, h5⟩
    have hS : s < a → ∃ m', m' < k ∧ ∃ (acc' : List Nat) (a' s' : Nat), (acc.map encC ++ [PyData.str (mkS [115])] = acc'.map encC ∧ (a : Int) - s - 1 = (a' : Int) - s' ∧ (a : Int) = a') ∧ s' ≤ a' ∧ a' ≤ n ∧ acc'.length = a' + s' ∧ m' = 2 * n - a' - s' ∧ ∀ w, goodW n a' s' w → HistW n (acc' ++ w) := fun h => by
      refine ⟨_, ?_, acc ++ [115], a, s + 1, ⟨by simp, by omega, rfl⟩, by omega, h2, by simp; omega, rfl, fun w hw => ?_⟩
      · omega
      · rw [List.append_assoc]
        exact h5 (115 :: w) (.inr ⟨rfl, h, hw⟩)
    have hA : a < n → ∃ m', m' < k ∧ ∃ (acc' : List Nat) (a' s' : Nat), (acc.map encC ++ [PyData.str (mkS [97])] = acc'.map encC ∧ (a : Int) - s + 1 = (a' : Int) - s' ∧ (n : Int) - a - 1 = (n : Int) - a') ∧ s' ≤ a' ∧ a' ≤ n ∧ acc'.length = a' + s' ∧ m' = 2 * n - a' - s' ∧ ∀ w, goodW n a' s' w → HistW n (acc' ++ w) := fun h => by
      refine ⟨_, ?_, acc ++ [97], a + 1, s, ⟨by simp, by omega, by omega⟩, by omega, by omega, by simp; omega, rfl, fun w hw => ?_⟩
      · omega
      · rw [List.append_assoc]
        exact h5 (97 :: w) (.inl ⟨rfl, h, hw⟩)
    simp
    split
    · rename_i c
      intro y y0 y1 z z0 z1
      obtain ⟨d, hd⟩ : ∃ d : Int, atI [PyData.int y, PyData.int 1, PyData.int 0, PyData.int (if 0 < z then 1 else 0), PyData.int (if 2 < (a : Int) - s then 1 else 0)] way = some (.int d) := by
        rcases (by omega : way = 0 ∨ way = 1 ∨ way = 2 ∨ way = 3 ∨ way = 4) with rfl | rfl | rfl | rfl | rfl
        · exact ⟨y, rfl⟩
        · exact ⟨1, rfl⟩
        · exact ⟨0, rfl⟩
        · exact ⟨_, rfl⟩
        · exact ⟨_, rfl⟩
      refine ⟨_, hd, ?_⟩
      by_cases c1 : (n : Int) - a = 0
      · rw [if_pos c1]
        refine ⟨by omega, ?_⟩
        have := hS (by omega)
        simpa using this
      · rw [if_neg c1]
        have hA' := hA (by omega)
        by_cases c2 : s < a
        · rw [if_pos c2]
          have hS' := hS c2
          simp
          split
          · exact ⟨by omega, by simpa using hS'⟩
          · exact ⟨by omega, by simpa using hA'⟩
        · rw [if_neg c2]
          exact ⟨by omega, by simpa using hA'⟩
    · rename_i c
      have e1 : a = n := by omega
      have e2 : s = n := by omega
      subst e1 e2
      have hw : HistW s acc := by have := h5 [] ⟨rfl, rfl⟩; simpa using this
      have h := hw.len
      refine ⟨_, allS_signs acc, ?_, ?_⟩
      · have := sum_signs acc
        simp at this ⊢
        omega
      · rw [join_signs]
        exact q acc (by simpa using hw)
/-! ### the law's own look at a word -/
@[simp] def S_law_fault : SV
  | [.py (.tuple xs), .py p], Q, _ => isSm p ∧ Q (.py (wErr xs.length p))
  | _, _, _ => False
theorem scan_counts (n : Nat) (w : List Nat) (hL : ∀ c ∈ w, isL c = true) (k : Nat) (hk : k ≤ w.length) : (w.take k).count 97 + (w.take k).count 115 = k := by
  induction k with
  | zero => simp
  | succ k ih =>
    have hk' : k < w.length := by omega
    rw [List.take_succ_eq_append_getElem hk', List.count_append, List.count_append]
    have := hL w[k] (List.getElem_mem hk')
    have ih := ih (by omega)
    simp [isL] at this
    rcases this with e | e <;> rw [e] <;> simp <;> omega
theorem l_law_fault : ∀ ds Q E, S_law_fault ds Q E → t_law_fault (envOf 4 ds) (fin Q E)
  | [.py (.tuple xs), .py (.str z)], Q, E, ⟨hs, q⟩ => by
    obtain ⟨w, rfl⟩ := str_ex z
    have hw : w.length ≤ 100000 := by have := hs _ rfl; simpa using this
    simp [t_law_fault, -forGo]
    have q' : Q (.py (wErrL xs.length w)) := by simpa [wErr] using q
    unfold wErrL at q'
    refine ⟨by omega, by omega, ?_⟩
    refine for_enc (encR 0) (fun k ρ => ∃ x, ρ = [.shr (.py (.tuple xs)), .shr (.py (.str (mkS w))), x, .un] ∧ ∀ j, j < k → ∀ c, w[j]? = some c → isL c = true) ⟨_, rfl, fun j hj => by omega⟩ (fun k j ρ hj iv nx ct hn => ?_) (fun ρ iv => ?_)
    · obtain ⟨x, rfl, h⟩ := iv
      obtain ⟨rfl, hj⟩ := range_get hj
      obtain ⟨c, hc⟩ : ∃ c, w[j]? = some c := ⟨w[j], List.getElem?_eq_getElem hj⟩
      have ac : atI w (j : Int) = some c := atI_nat hc
      simp [ac]
      refine ⟨by omega, ?_⟩
      split
      · rename_i c1
        have hl : isL c = false := by simp [isL]; exact ⟨fun e => c1.1 e.symm, fun e => c1.2 e.symm⟩
        obtain ⟨r, hr⟩ := badW_first hc hl h
        rw [hr] at q'
        simpa using q'
      · rename_i c1
        refine (hn _ ⟨_, rfl, fun i hi d hd => ?_⟩).1
        by_cases e : i = j
        · subst e
          rw [hc] at hd; cases hd
          simp [isL]
          by_cases e1 : c = 97
          · exact .inl e1
          · exact .inr (Classical.byContradiction fun e2 => c1 ⟨fun z => e1 z.symm, fun z => e2 z.symm⟩)
        · exact h i (by omega) d hd
    · obtain ⟨x, rfl, h⟩ := iv
      have hb : badW w = [] := badW_nil fun i d hd => h i (by have := (List.getElem?_eq_some_iff.mp hd).1; simpa using this) d hd
      rw [hb] at q'
      simp [-forGo]
      refine ⟨by omega, by omega, ?_⟩
      refine for_enc (encR 0) (fun k ρ => ∃ x y, ρ = [.shr (.py (.tuple xs)), .shr (.py (.str (mkS w))), x, y] ∧ Q (.py (scanP xs.length k ((w.take k).count 97) ((w.take k).count 115) (w.drop k)))) ⟨_, _, rfl, by simpa using q'⟩ (fun k j ρ hj iv nx ct hn => ?_) (fun ρ iv => ?_)
      · obtain ⟨x, y, rfl, hq⟩ := iv
        obtain ⟨rfl, hj⟩ := range_get hj
        obtain ⟨c, hc⟩ : ∃ c, w[j]? = some c := ⟨w[j], List.getElem?_eq_getElem hj⟩
        have ac : atI w (j : Int) = some c := atI_nat hc
        have hl : isL c = true := h j (by simpa using hj) c hc
        have hd : w.drop j = c :: w.drop (j + 1) := by
          rw [List.drop_eq_getElem_cons hj]
          congr 1
          exact (List.getElem?_eq_some_iff.mp hc).2
        have ht : w.take (j + 1) = w.take j ++ [c] := take_succ_get hc
        have ec : cutL w none (some (j : Int)) = w.take j := by rw [cutL_take w (by omega)]; simp
        rw [hd] at hq
        unfold scanP at hq
        simp [ac, ec]
        refine ⟨by omega, ?_⟩
        have nxt : ∀ x y, Q (.py (scanP xs.length (j + 1) ((w.take (j + 1)).count 97) ((w.take (j + 1)).count 115) (w.drop (j + 1)))) → nx [.shr (.py (.tuple xs)), .shr (.py (.str (mkS w))), x, y] := fun x y hh => (hn _ ⟨_, _, rfl, hh⟩).1
        rw [ht] at nxt
        simp [isL] at hl
        rcases hl with e | e
        · subst e
          simp at hq nxt ⊢
          split
          · rename_i c1
            rw [if_pos (by omega)] at hq
            exact hq
          · rename_i c1
            rw [if_neg (by omega)] at hq
            exact ⟨by omega, nxt _ _ hq⟩
        · subst e
          simp at hq nxt ⊢
          split
          · rename_i c1
            rw [if_pos (by omega)] at hq
            exact ⟨by omega, hq⟩
          · rename_i c1
            rw [if_neg (by omega)] at hq
            exact ⟨by omega, nxt _ _ hq⟩
      · obtain ⟨x, y, rfl, hq⟩ := iv
        have : w.drop (List.range w.length).length = [] := List.drop_eq_nil_of_le (by simp)
        rw [this] at hq
        exact hq
  | [.py (.tuple xs), .py .none], Q, E, q | [.py (.tuple xs), .py (.bool _)], Q, E, q | [.py (.tuple xs), .py (.int _)], Q, E, q | [.py (.tuple xs), .py (.list _)], Q, E, q | [.py (.tuple xs), .py (.tuple _)], Q, E, q | [.py (.tuple xs), .py (.dict _)], Q, E, q => by simpa [t_law_fault, wErr] using q.2
/-! ### a word changed -/
@[simp] def S_law_twisted (r : Addr) : SV
  | [.raw v, .py (.str z)], Q, _ => v = .ref r ∧ z.length ≤ 50000 ∧ ∀ z' : Str, z'.length ≤ z.length + 10 → (∀ c ∈ sl z', c ∈ sl z ∨ c < 128) → Q (.py (.str z'))
  | _, _, _ => False
theorem l_law_twisted (r : Addr) : ∀ ds Q E, S_law_twisted r ds Q E → t_law_twisted (svTake r) (svPick r) (envOf 5 ds) (fin Q E)
  | [.raw v, .py (.str z)], Q, E, ⟨hv, hz, q⟩ => by
    subst hv
    obtain ⟨w, rfl⟩ := str_ex z
    simp at hz q
    simp [t_law_twisted]
    refine ⟨by omega, by omega, fun x x0 x1 => AllIn.of (S := fun y => ∃ g : List Nat, y = .str (mkS g) ∧ g.length ≤ 2 ∧ ∀ c ∈ g, c < 128) ?_ ?_⟩
    · have e1 : Str.ofString "x" = mkS [120] := by decide +kernel
      have e2 : Str.ofString "A" = mkS [65] := by decide +kernel
      have e3 : Str.ofString " " = mkS [32] := by decide +kernel
      have e4 : Str.ofString "\n" = mkS [10] := by decide +kernel
      have e5 : Str.ofString "ss" = mkS [115, 115] := by decide +kernel
      have e6 : Str.ofString "aa" = mkS [97, 97] := by decide +kernel
      simp [e1, e2, e3, e4, e5, e6]
    · rintro y ⟨g, rfl, hg, hc⟩
      simp
      have l1 := cutL_len w none (some x)
      have l2 := cutL_len w (some x) none
      have l3 := cutL_len w (some (x + 1)) none
      have l12 : (cutL w none (some x)).length + (cutL w (some x) none).length = w.length := by rw [cutL_take w x0, cutL_drop w x0, List.length_take, List.length_drop]; omega
      have l13 : (cutL w none (some x)).length + (cutL w (some (x + 1)) none).length ≤ w.length := by rw [cutL_take w x0, cutL_drop w (by omega), List.length_take, List.length_drop]; omega
      have m : ∀ lo hi, ∀ c ∈ cutL w lo hi, c ∈ w := fun lo hi c h => cutL_mem h
      repeat (refine ⟨by omega, ?_⟩)
      refine AllIn.of (S := fun y => ∃ u : List Nat, y = .str (mkS u) ∧ u.length ≤ w.length + 10 ∧ ∀ c ∈ u, c ∈ w ∨ c < 128) ?_ ?_
      · intro y hy
        simp only [List.mem_cons, List.not_mem_nil, or_false] at hy
        have P3 : ∀ (a b c : List Nat), (∀ d ∈ a, d ∈ w ∨ d < 128) → (∀ d ∈ b, d ∈ w ∨ d < 128) → (∀ d ∈ c, d ∈ w ∨ d < 128) → ∀ d ∈ a ++ (b ++ c), d ∈ w ∨ d < 128 := fun a b c h1 h2 h3 d hd => by
          rcases List.mem_append.mp hd with h | h
          · exact h1 d h
          · rcases List.mem_append.mp h with h | h
            · exact h2 d h
            · exact h3 d h
        have P2 : ∀ (a b : List Nat), (∀ d ∈ a, d ∈ w ∨ d < 128) → (∀ d ∈ b, d ∈ w ∨ d < 128) → ∀ d ∈ a ++ b, d ∈ w ∨ d < 128 := fun a b h1 h2 d hd => by
          rcases List.mem_append.mp hd with h | h
          · exact h1 d h
          · exact h2 d h
        have mc : ∀ lo hi, ∀ d ∈ cutL w lo hi, d ∈ w ∨ d < 128 := fun lo hi d h => .inl (m lo hi d h)
        have mg : ∀ d ∈ g, d ∈ w ∨ d < 128 := fun d h => .inr (hc d h)
        have mw : ∀ d ∈ w, d ∈ w ∨ d < 128 := fun d h => .inl h
        rcases hy with rfl | rfl | rfl | rfl | rfl | rfl | rfl
        · exact ⟨_, rfl, by simp; omega, P3 _ _ _ (mc _ _) mg (mc _ _)⟩
        · exact ⟨_, rfl, by simp; omega, P3 _ _ _ (mc _ _) mg (mc _ _)⟩
        · exact ⟨_, rfl, by simp; omega, P2 _ _ (mc _ _) (mc _ _)⟩
        · exact ⟨_, rfl, by simp, fun d h => .inl (List.mem_reverse.mp h)⟩
        · exact ⟨_, rfl, by omega, mc _ _⟩
        · exact ⟨_, rfl, by simp; omega, P2 _ _ mw mg⟩
        · exact ⟨_, rfl, by simp; omega, P2 _ _ (mc _ _) (mc _ _)⟩
      · rintro y ⟨u, rfl, hu, hm⟩
        exact q _ (by simpa using hu) (by simpa using hm)
end LawP
set_option Elab.async false
set_option linter.all false
set_option maxRecDepth 100000
set_option maxHeartbeats 4000000
namespace LawP
open PySem PySem.Spec PyProof.Rows L2 VL
/-! ### sizes of words and what is told of them -/
theorem up97 : Unicode.upperOf 97 = [65] := by decide +kernel
theorem up115 : Unicode.upperOf 115 = [83] := by decide +kernel
theorem sl_upper (w : List Nat) : sl (Txt.upper (mkS w)) = (w.map Unicode.upperOf).flatten := by
  unfold Txt.upper placed sl
  simp
  congr 1
  apply List.ext_getElem?
  intro i
  simp [List.getElem?_mapIdx]
  cases w[i]? <;> rfl
theorem upper_word {w : List Nat} (h : ∀ c ∈ w, c = 97 ∨ c = 115) : ∃ u : List Nat, Txt.upper (mkS w) = mkS u ∧ u.length = w.length ∧ ∀ c ∈ u, c < 128 := by
  refine ⟨(w.map Unicode.upperOf).flatten, by rw [← sl_upper, mkS_sl], ?_, ?_⟩
  · induction w with
    | nil => rfl
    | cons c w ih =>
      have ih := ih fun d hd => h d (List.mem_cons_of_mem _ hd)
      rw [List.map_cons, List.flatten_cons, List.length_append, ih]
      rcases h c List.mem_cons_self with rfl | rfl
      · rw [up97]; simp; omega
      · rw [up115]; simp; omega
  · induction w with
    | nil => intro c hc; simp at hc
    | cons c w ih =>
      have ih := ih fun d hd => h d (List.mem_cons_of_mem _ hd)
      intro d hd
      rw [List.map_cons, List.flatten_cons, List.mem_append] at hd
      rcases hd with hd | hd
      · rcases h c List.mem_cons_self with rfl | rfl
        · rw [up97] at hd; simp at hd; omega
        · rw [up115] at hd; simp at hd; omega
      · exact ih d hd
theorem sw_mkS {u : List Nat} {n : Nat} (h : u.length ≤ n) (hc : ∀ c ∈ u, c < 1114112) : Sw n 0 (.str (mkS u)) := by
  refine ⟨by simp only [PyData.showable], ?_, ?_, by simp only [PyData.depth]; omega⟩
  · simp only [PyData.leavesShort]
    rw [List.all_eq_true]
    intro c hm
    have := hc c (by simpa using hm)
    exact decide_eq_true (by omega)
  · simp only [PyData.weight]
    show (mkS u).length ≤ n
    simpa using h
theorem scanP_sw (n : Nat) : ∀ (w : List Nat) (k a s : Nat), k + w.length ≤ 100000 → Sw 200 3 (scanP n k a s w)
  | [], _, _, _, _ => by unfold scanP; decide +kernel
  | c :: w, k, a, s, h => by
    have i40 : Sw 60 2 (.int (k : Nat)) := (Sw.int (by simp at h; omega)).mono (by omega) (by omega)
    have t1 : Sw 60 2 (.str "arrival") := by decide +kernel
    have t2 : Sw 60 2 (.str "service") := by decide +kernel
    unfold scanP
    split
    · split
      · exact (Sw.t2 i40 t1).mono (by omega) (by omega)
      · exact scanP_sw n w _ _ _ (by simp at h; omega)
    · split
      · exact (Sw.t2 i40 t2).mono (by omega) (by omega)
      · exact scanP_sw n w _ _ _ (by simp at h; omega)
theorem wErr_sw (n : Nat) {p : PyData} (h : isSm p) : Sw 200 3 (wErr n p) := by
  have t0 : Sw 200 3 (.tuple [.none, .str "string"]) := by decide +kernel
  cases p <;> try exact t0
  rename_i z
  have hz := h z rfl
  show Sw 200 3 (wErrL n (sl z))
  unfold wErrL
  cases e : badW (sl z) with
  | nil =>
    show Sw 200 3 (scanP n 0 0 0 (sl z))
    exact scanP_sw n (sl z) _ _ _ (by rw [slen]; omega)
  | cons i r =>
    obtain ⟨c, hc, _, _⟩ := badW_cons e
    have := (List.getElem?_eq_some_iff.mp hc).1
    rw [slen] at this
    have t1 : Sw 60 2 (.str "letter") := by decide +kernel
    have i60 : Sw 60 2 (.int (i : Nat)) := (Sw.int (by omega)).mono (by omega) (by omega)
    show Sw 200 3 (.tuple [.int (i : Nat), .str "letter"])
    exact (Sw.t2 i60 t1).mono (by omega) (by omega)
/-- a value that the laws try -/
structure OkV (p : PyData) : Prop where
  sm : isSm p
  sw : Sw 100000 30 p
theorem OkV.txt {u : List Nat} (h : u.length ≤ 90000) (hc : ∀ c ∈ u, c < 128) : OkV (.str (mkS u)) :=
  ⟨fun z e => by simp at e; subst e; simp; omega, (sw_mkS (n := 100000) (by omega) fun c h => by have := hc c h; omega).mono (by omega) (by omega)⟩
theorem OkV.odd {p : PyData} (h : p ∈ odds) : OkV p := by
  refine ⟨fun z e => ?_, (odds_sw p h).mono (by omega) (by omega)⟩
  subst e
  have : ∀ p ∈ odds, (match p with | .str z => decide (z.length ≤ 100000) | _ => true) = true := by decide +kernel
  simpa using this _ h
theorem HistW.ok {n : Nat} {w : List Nat} (h : HistW n w) : ∀ c ∈ w, c < 128 := fun c hc => by rcases goodW_let h c hc with rfl | rfl <;> omega
end LawP
set_option Elab.async false
set_option linter.all false
set_option maxRecDepth 100000
set_option maxHeartbeats 4000000
namespace LawP
open PySem PySem.Spec PyProof.Rows L2 VL
def t_word_with : VS :=
  (sSeq (sPar [1, 2] (mCons true (vLst vNil) (mCons false (vC (.py (.int 0))) mNil)))
  (sSeq (sFor (iS (vVar 0)) (tgName 3)
  (sSeq (sMut 1 gApp (vCons (vBin gAdd (vBin gMulA (vC (.py (.str "s"))) (vBin gSub (vBor 3) (vBor 2))) (vC (.py (.str "a")))) vNil))
  (sSet 2 (vVar 3))))
  (sRet (vBin gAdd (vMth isS gTJoin (vC (.py (.str ""))) (vCons (vBor 1) vNil)) (vBin gMulA (vC (.py (.str "s"))) (vBin gSub (vCal gLen (vCons (vBor 0) vNil)) (vBor 2)))))))
def t_is_integer : VS :=
  (sRet (vAnd (vCal gIsi (vCons (vBor 0) (vCons (vC (.raw (.ty "int"))) vNil))) (vAnd (vNot (vCal gIsi (vCons (vBor 0) (vCons (vC (.raw (.ty "bool"))) vNil)))) (vChain gLe gLe (vBor 1) (vBor 0) (vBor 2)))))
def t_word_from (S_is_integer : SV) (S_word_with : SV) : VS :=
  (sSeq (sIf (wNot (vTst (vChain gLe gLe (vC (.py (.int 1))) (vCal gLen (vCons (vBor 0) vNil)) (vC (.py (.int 40))))))
  (sRaise1 "TooLarge" "limit" (vC (.py (.int 40))))
  sNext)
  (sSeq (sFor (iEn (vCons (vVar 0) vNil)) (tgTup 2 (tgCons (tgName 1) (tgCons (tgName 2) tgNil)))
  (sIf (wNot (vTst (vCall S_is_integer (vCons (vVar 2) (vCons (vIf (vTst (vBin gGt (vBor 1) (vC (.py (.int 0))))) (vBin gIx (vBor 0) (vBin gSub (vBor 1) (vC (.py (.int 1))))) (vC (.py (.int 0)))) (vCons (vVar 1) vNil))))))
  (sRaise1 "BadCount" "index" (vVar 1))
  sNext))
  (sRet (vCall S_word_with (vCons (vVar 0) vNil)))))
end LawP
set_option Elab.async false
set_option linter.all false
set_option maxRecDepth 100000
set_option maxHeartbeats 4000000
namespace LawP
open PySem PySem.Spec PyProof.Rows L2 VL
/-! ### whole numbers within bounds -/
def isInt (p : PyData) (lo hi : Int) : Bool := match p with
  | .int i => decide (lo ≤ i) && decide (i ≤ hi)
  | _ => false
@[simp] def S_is_integer : SV
  | [.py p, .py (.int lo), .py (.int hi)], Q, _ => Q (.py (.bool (isInt p lo hi)))
  | _, _, _ => False
theorem l_is_integer : ∀ ds Q E, S_is_integer ds Q E → t_is_integer (envOf 3 ds) (fin Q E)
  | [.py p, .py (.int lo), .py (.int hi)], Q, E, q => by
    cases p <;> simp [t_is_integer, isInt] at q ⊢ <;> try assumption
    rename_i i
    by_cases h : lo ≤ i <;> simp [h] at q ⊢ <;> exact q
/-! ### counts and their words -/
/-- the first wrong place, b the count before -/
def badC : Int → Nat → List PyData → Option Nat
  | _, _, [] => none
  | b, k, .int c :: ps => if b ≤ c ∧ c ≤ k then badC c (k + 1) ps else some k
  | _, k, _ :: _ => some k
def wordP : Int → Nat → List PyData → List Nat
  | b, k, [] => List.replicate ((k : Int) - b).toNat 115
  | b, k, .int c :: ps => List.replicate (c - b).toNat 115 ++ 97 :: wordP c (k + 1) ps
  | _, _, _ :: _ => []
theorem badC_cons {b : Int} {k : Nat} {p : PyData} {ps : List PyData} : badC b k (p :: ps) = if isInt p b k = true then (match p with | .int c => badC c (k + 1) ps | _ => none) else some k := by
  cases p <;> simp [badC, isInt]
theorem isInt_ex {p : PyData} {lo hi : Int} (h : isInt p lo hi = true) : ∃ c, p = .int c ∧ lo ≤ c ∧ c ≤ hi := by
  cases p <;> simp [isInt] at h
  exact ⟨_, rfl, h.1, h.2⟩
theorem drop_atE {α : Type} {xs : List α} {i : Nat} {x : α} (h : xs[i]? = some x) : xs.drop i = x :: xs.drop (i + 1) := by
  obtain ⟨hi, rfl⟩ := List.getElem?_eq_some_iff.mp h
  exact List.drop_eq_getElem_cons hi
theorem sum_le {ls : List (List Nat)} {m : Nat} (h : ∀ l ∈ ls, l.length ≤ m) : (ls.map List.length).sum ≤ m * ls.length := by
  induction ls with
  | nil => simp
  | cons l ls ih =>
    have := ih fun l hl => h l (List.mem_cons_of_mem _ hl)
    have := h l List.mem_cons_self
    simp only [List.map_cons, List.sum_cons, List.length_cons, Nat.mul_add]
    omega
@[simp] def S_word_with : SV
  | [.py (.tuple ps)], Q, _ => ps.length ≤ 40 ∧ badC 0 0 ps = none ∧ Q (.py (.str (mkS (wordP 0 0 ps))))
  | _, _, _ => False
theorem l_word_with : ∀ ds Q E, S_word_with ds Q E → t_word_with (envOf 4 ds) (fin Q E)
  | [.py (.tuple ps)], Q, E, ⟨hl, hb, q⟩ => by
    simp [t_word_with, -forGo]
    refine for_inv (fun i ρ => ∃ (ls : List (List Nat)) (sv : List PyData) (bf : Int) (x : VL.Slot), ρ = [.shr (.py (.tuple ps)), .own (.py (.list sv)), .shr (.py (.int bf)), x] ∧ sv = ls.map (fun l => PyData.str (mkS l)) ∧ ls.length = i ∧ badC bf i (ps.drop i) = none ∧ wordP 0 0 ps = ls.flatten ++ wordP bf i (ps.drop i) ∧ 0 ≤ bf ∧ bf ≤ i ∧ ∀ l ∈ ls, l.length ≤ 42) (fun i p ρ hp iv nx ct hn => ?_) (fun ρ iv => ?_) ⟨[], [], 0, _, rfl, rfl, rfl, by simpa using hb, by simp, by omega, by omega, by simp⟩
    · obtain ⟨ls, sv, bf, x, rfl, es, el, h1, h2, h3, h4, h5⟩ := iv
      have hi : i < ps.length := (List.getElem?_eq_some_iff.mp hp).1
      rw [drop_atE hp] at h1 h2
      rw [badC_cons] at h1
      by_cases c : isInt p bf i = true
      · obtain ⟨k, rfl, k1, k2⟩ := isInt_ex c
        rw [if_pos c] at h1
        have sl : sv.length = i := by rw [es]; simpa using el
        simp
        refine ⟨by omega, by omega, by omega, (hn _ ⟨ls ++ [List.replicate (k - bf).toNat 115 ++ [97]], _, k, _, rfl, ?_, by simp [el], h1, ?_, by omega, by omega, ?_⟩).1⟩
        · rw [es]; simp
        · rw [h2]; simp [wordP]
        · intro l hl'
          rcases List.mem_append.mp hl' with h | h
          · exact h5 l h
          · rw [List.mem_singleton.mp h]; simp; omega
      · rw [if_neg c] at h1
        cases h1
    · obtain ⟨ls, sv, bf, x, rfl, es, el, h1, h2, h3, h4, h5⟩ := iv
      rw [List.drop_length] at h2
      have hs := sum_le h5
      have ej := join0 ls
      simp [es, allS_mk]
      have e0 : ((fun x : Str => x.length) ∘ mkS) = (List.length : List Nat → Nat) := by funext l; simp
      have el2 : (Txt.join (mkS []) (List.map mkS ls)).length = (ls.map List.length).sum := by rw [ej]; simp [List.length_flatten]
      rw [e0, el2, ej]
      refine ⟨by omega, ⟨by omega, by omega, by omega⟩, by omega, ?_⟩
      rw [h2] at q
      simpa [wordP] using q
@[simp] def wfQ (ps : List PyData) (Q : D → Prop) (E : Er → Prop) : Prop := if 1 ≤ ps.length ∧ ps.length ≤ 40 then (match badC 0 0 ps with | none => Q (.py (.str (mkS (wordP 0 0 ps)))) | some k => E ⟨"BadCount", [("index", .int (k : Nat))]⟩) else E ⟨"TooLarge", [("limit", .int 40)]⟩
@[simp] def S_word_from : SV
  | [.py (.tuple ps)], Q, E => wfQ ps Q E
  | _, _, _ => False
theorem l_word_from : ∀ ds Q E, S_word_from ds Q E → t_word_from S_is_integer S_word_with (envOf 3 ds) (fin Q E)
  | [.py (.tuple ps)], Q, E, q => by
    simp [t_word_from, -forGo]
    simp at q
    by_cases c1 : 1 ≤ ps.length
    · by_cases c2 : ps.length ≤ 40
      · have d1 : (1 : Int) ≤ ps.length := by omega
        have d2 : (ps.length : Int) ≤ 40 := by omega
        rw [if_pos ⟨c1, c2⟩] at q
        rw [if_pos d1, if_pos d2]
        refine for_inv (fun i ρ => ∃ (bf : Int) (x y : VL.Slot), ρ = [.shr (.py (.tuple ps)), x, y] ∧ badC 0 0 ps = badC bf i (ps.drop i) ∧ 0 ≤ bf ∧ bf ≤ i ∧ (i = 0 → bf = 0) ∧ ∀ j, i = j + 1 → ps[j]? = some (.int bf)) (fun i p ρ hp iv nx ct hn => ?_) (fun ρ iv => ?_) ⟨0, _, _, rfl, by simp, by omega, by omega, by simp, by simp⟩
        · obtain ⟨bf, x, y, rfl, h1, h2, h3, h4, h5⟩ := iv
          obtain ⟨p, hp2, rfl⟩ := enumP_getD (f := id) (by simpa using hp)
          clear hp
          have hp := hp2
          have hi : i < ps.length := (List.getElem?_eq_some_iff.mp hp).1
          rw [drop_atE hp, badC_cons] at h1
          have fin1 : ∀ x y, isInt p bf i = true → nx [.shr (.py (.tuple ps)), x, y] := fun x y c => by
            obtain ⟨k, rfl, k1, k2⟩ := isInt_ex c
            rw [if_pos c] at h1
            exact (hn _ ⟨k, _, _, rfl, h1, by omega, by omega, by omega, fun j e => by
              obtain rfl : i = j := by omega
              exact hp⟩).1
          have fin2 : ¬ isInt p bf i = true → E ⟨"BadCount", [("index", .int (i : Nat))]⟩ := fun c => by
            rw [if_neg c] at h1
            rw [h1] at q
            exact q
          by_cases i0 : i = 0
          · subst i0
            obtain rfl := h4 rfl
            simp
            split
            · rename_i c
              exact fin1 _ _ c
            · rename_i c
              exact fin2 c
          · obtain ⟨j, rfl⟩ : ∃ j, i = j + 1 := ⟨i - 1, by omega⟩
            have h5 := h5 j rfl
            simp
            refine ⟨_, atI_nat h5, ?_⟩
            simp
            split
            · rename_i c
              exact fin1 _ _ (by simpa using c)
            · rename_i c
              have := fin2 (by simpa using c)
              simpa using this
        · obtain ⟨bf, x, y, rfl, h1, h2, h3, h4, h5⟩ := iv
          simp [enumP_len] at h1 ⊢
          simp only [badC] at h1
          rw [h1] at q
          exact ⟨c2, h1, q⟩
      · rw [if_neg (by omega)] at q
        have d1 : (1 : Int) ≤ ps.length := by omega
        have d2 : ¬ (ps.length : Int) ≤ 40 := by omega
        rw [if_pos d1, if_neg d2]
        exact q
    · rw [if_neg (by omega)] at q
      have d1 : ¬ (1 : Int) ≤ ps.length := by omega
      rw [if_neg d1]
      exact q
end LawP
set_option Elab.async false
set_option linter.all false
set_option maxRecDepth 100000
set_option maxHeartbeats 4000000
namespace LawP
open PySem PySem.Spec PyProof.Rows L2 VL
def t_x_spaced : VS :=
  (sRet (vMth isS gTJoin (vC (.py (.str " "))) (vCons (vLc [1] (iS (vBor 0)) (tgName 1) wYes (vCal gStr (vCons (vBor 1) vNil))) vNil)))
def t_row_text : VS :=
  (sRet (vMth isS gTJoin (vC (.py (.str " "))) (vCons (vLc [1] (iS (vBor 0)) (tgName 1) wYes (vCal gStr (vCons (vBor 1) vNil))) vNil)))
def t_check_string : VS :=
  (sIf (wNot (vTst (vCal gIsi (vCons (vBor 0) (vCons (vC (.raw (.ty "str"))) vNil)))))
  (sRaise1 "BadText" "index" (vC (.py .none)))
  sNext)
def t_read_integer : VS :=
  (sSeq (sSet 1 (vIf (vTst (vBin gEq (vSl gSl (vBor 0) oNo (oAt (vC (.py (.int 1))))) (vC (.py (.str "-"))))) (vSl gSl (vBor 0) (oAt (vC (.py (.int 1)))) oNo) (vVar 0)))
  (sSeq (sIf (wOr (wNot (vTst (vChain gLe gLe (vC (.py (.int 1))) (vCal gLen (vCons (vBor 1) vNil)) (vC (.py (.int 20)))))) (wNot (vTst (vCal gAll (vCons (vLc [2] (iS (vBor 1)) (tgName 2) wYes (vBin (gIn false) (vBor 2) (vC (.py (.str "0123456789"))))) vNil)))))
  (sRet (vC (.py .none)))
  sNext)
  (sSeq (sIf (wAnd (vTst (vBin gEq (vBin gIx (vBor 1) (vC (.py (.int 0)))) (vC (.py (.str "0"))))) (vTst (vBin gNe (vBor 0) (vC (.py (.str "0"))))))
  (sRet (vC (.py .none)))
  sNext)
  (sRet (vCal gInt (vCons (vBor 0) vNil))))))
def t_is_group (S_is_integer : SV) : VS :=
  (sRet (vCall S_is_integer (vCons (vVar 0) (vCons (vC (.py (.int 0))) (vCons (vC (.py (.int 1000000000))) vNil)))))
def t_parse_row (S_check_string : SV) (S_read_integer : SV) (S_is_group : SV) : VS :=
  (sSeq (sExpr (vCall S_check_string (vCons (vVar 0) vNil)))
  (sSeq (sSetN 1 (vLst vNil))
  (sSeq (sFor (iEn (vCons (vMth isS gTSplit (vBor 0) (vCons (vC (.py (.str " "))) vNil)) vNil)) (tgTup 2 (tgCons (tgName 2) (tgCons (tgName 3) tgNil)))
  (sSeq (sSet 4 (vCall S_read_integer (vCons (vVar 3) vNil)))
  (sSeq (sIf (wOr (wNot (vTst (vCall S_is_group (vCons (vVar 4) vNil)))) (vTst (vBin gGe (vBor 2) (vC (.py (.int 40))))))
  (sRaise1 "BadText" "index" (vVar 2))
  sNext)
  (sMut 1 gApp (vCons (vVar 4) vNil)))))
  (sRet (vCal gTuple (vCons (vBor 1) vNil))))))
def t_persons_text : VS :=
  (sRet (vOrS (vMth isS gTJoin (vC (.py (.str " "))) (vCons (vLc [1] (iS (vBor 0)) (tgName 1) wYes (vCal gStr (vCons (vBor 1) vNil))) vNil)) (vC (.py (.str "none")))))
def t_parse_persons (S_check_string : SV) (S_read_integer : SV) (S_is_integer : SV) : VS :=
  (sSeq (sExpr (vCall S_check_string (vCons (vVar 1) vNil)))
  (sSeq (sIf (vTst (vBin gEq (vBor 1) (vC (.py (.str "none")))))
  (sRet (vTup vNil))
  sNext)
  (sSeq (sSetN 2 (vLst vNil))
  (sSeq (sFor (iEn (vCons (vMth isS gTSplit (vBor 1) (vCons (vC (.py (.str " "))) vNil)) vNil)) (tgTup 2 (tgCons (tgName 3) (tgCons (tgName 4) tgNil)))
  (sSeq (sSet 5 (vCall S_read_integer (vCons (vVar 4) vNil)))
  (sSeq (sIf (wOr (wNot (vTst (vCall S_is_integer (vCons (vVar 5) (vCons (vC (.py (.int 0))) (vCons (vBin gSub (vCal gLen (vCons (vBor 0) vNil)) (vC (.py (.int 1)))) vNil)))))) (vTst (vBin gGe (vBor 3) (vC (.py (.int 40))))))
  (sRaise1 "BadText" "index" (vVar 3))
  sNext)
  (sMut 2 gApp (vCons (vVar 5) vNil)))))
  (sRet (vCal gTuple (vCons (vBor 2) vNil)))))))
def t_short_word : VS :=
  (sSeq (sPar [1, 2] (mCons true (vLst vNil) (mCons false (vC (.py (.int 0))) mNil)))
  (sSeq (sWhile (vTst (vBin gLt (vBor 2) (vCal gLen (vCons (vBor 0) vNil))))
  (sSeq (sSet 3 (vVar 2))
  (sSeq (sWhile (wAnd (vTst (vBin gLt (vBor 3) (vCal gLen (vCons (vBor 0) vNil)))) (vTst (vBin gEq (vBin gIx (vBor 0) (vBor 3)) (vBin gIx (vBor 0) (vBor 2)))))
  (sAugA 3 gAugAdd (vC (.py (.int 1)))))
  (sSeq (sMut 1 gApp (vCons (vBin gAdd (vBin gIx (vBor 0) (vBor 2)) (vIf (vTst (vBin gGt (vBin gSub (vBor 3) (vBor 2)) (vC (.py (.int 1))))) (vCal gStr (vCons (vBin gSub (vBor 3) (vBor 2)) vNil)) (vC (.py (.str ""))))) vNil))
  (sSet 2 (vVar 3))))))
  (sRet (vOrS (vMth isS gTJoin (vC (.py (.str ""))) (vCons (vBor 1) vNil)) (vC (.py (.str "-")))))))
def t_stretches_in : VS :=
  (sSeq (sSetN 1 (vLst vNil))
  (sSeq (sFor (iS (vVar 0)) (tgName 2)
  (sIf (vTst (vBin (gIn false) (vBor 2) (vTup (vCons (vC (.py (.str "a"))) (vCons (vC (.py (.str "s"))) vNil)))))
  (sMut 1 gApp (vCons (vVar 2) vNil))
  (sIf (wOr (vTst (vBin (gIn true) (vBor 2) (vC (.py (.str "0123456789"))))) (wOr (vTst (vBin gEq (vBor 1) (vLst vNil))) (vTst (vBin gGt (vCal gLen (vCons (vBin gIx (vBor 1) (vUn gNeg (vC (.py (.int 1))))) vNil)) (vC (.py (.int 2)))))))
  (sRet (vC (.py .none)))
  (sStoL 1 (vUn gNeg (vC (.py (.int 1)))) (vBin gAdd (vBin gIx (vBor 1) (vUn gNeg (vC (.py (.int 1))))) (vBor 2))))))
  (sFrz 1 (sRet (vVar 1)))))
def t_long_word (S_check_string : SV) (S_stretches_in : SV) (S_short_word : SV) : VS :=
  (sSeq (sExpr (vCall S_check_string (vCons (vVar 0) vNil)))
  (sSeq (sSet 1 (vIf (vTst (vBin gNe (vBor 0) (vC (.py (.str "-"))))) (vCall S_stretches_in (vCons (vVar 0) vNil)) (vLst vNil)))
  (sSeq (sIf (vTst (vBin (gIsN false) (vBor 1) (vC (.py .none))))
  (sRaise1 "BadText" "index" (vC (.py (.int 0))))
  sNext)
  (sSeq (sSet 2 (vMth isS gTJoin (vC (.py (.str ""))) (vCons (vLc [3] (iS (vBor 1)) (tgName 3) wYes (vBin gMulA (vBin gIx (vBor 3) (vC (.py (.int 0)))) (vCal gInt (vCons (vOrS (vSl gSl (vBor 3) (oAt (vC (.py (.int 1)))) oNo) (vC (.py (.str "1")))) vNil)))) vNil)))
  (sSeq (sIf (wOr (vTst (vBin gGt (vCal gLen (vCons (vBor 2) vNil)) (vBin gMulA (vC (.py (.int 2))) (vC (.py (.int 40)))))) (vTst (vBin gNe (vCall S_short_word (vCons (vVar 2) vNil)) (vBor 0))))
  (sRaise1 "BadText" "index" (vC (.py (.int 0))))
  sNext)
  (sRet (vVar 2)))))))
end LawP
set_option Elab.async false
set_option linter.all false
namespace LawP
open PySem VL
/-! ### the queue: the mathematics -/
/-- p stands at place i -/
def insAt (ws : List Nat) (i p : Nat) : List Nat := ws.take i ++ p :: ws.drop i
/-- where p joins: behind the mate, or at the end -/
def joinPl (ws : List Nat) (m : Option Nat) : Nat := match m with
  | some k => if k ∈ ws then ws.idxOf k + 1 else ws.length
  | none => ws.length
def joinQ (ws : List Nat) (p : Nat) (m : Option Nat) : List Nat := insAt ws (joinPl ws m) p
theorem mem_insAt {ws : List Nat} {i p x : Nat} : x ∈ insAt ws i p ↔ x = p ∨ x ∈ ws := by
  unfold insAt
  rw [List.mem_append, List.mem_cons]
  constructor
  · rintro (h | h | h)
    · exact .inr (List.mem_of_mem_take h)
    · exact .inl h
    · exact .inr (List.mem_of_mem_drop h)
  · rintro (h | h)
    · exact .inr (.inl h)
    · rw [← List.take_append_drop i ws] at h
      exact (List.mem_append.mp h).elim .inl fun h => .inr (.inr h)
theorem insAt_len (ws : List Nat) (i p : Nat) : (insAt ws i p).length = ws.length + 1 := by
  unfold insAt
  rw [List.length_append, List.length_cons, List.length_take, List.length_drop]
  omega
theorem joinQ_len (ws : List Nat) (p : Nat) (m : Option Nat) : (joinQ ws p m).length = ws.length + 1 := insAt_len _ _ _
theorem mem_joinQ {ws : List Nat} {p x : Nat} {m : Option Nat} : x ∈ joinQ ws p m ↔ x = p ∨ x ∈ ws := mem_insAt
/-- members of a group stand in the order of their arrival, and who came behind a waiting one waits, too -/
structure QInv (row : List Int) (a : Nat) (ws : List Nat) : Prop where
  lt : ∀ x ∈ ws, x < a
  up : ∀ x ∈ ws, ∀ y, x < y → y < a → row[x]? = row[y]? → y ∈ ws
  ord : ws.Pairwise fun x y => row[x]? = row[y]? → x < y
  nd : ws.Nodup
theorem QInv.nil (row : List Int) (a : Nat) : QInv row a [] := ⟨by simp, by simp, .nil, .nil⟩
theorem QInv.serve {row : List Int} {a x : Nat} {ws : List Nat} (h : QInv row a (x :: ws)) : QInv row a ws := by
  obtain ⟨h1, h2, h3, h4⟩ := h
  rw [List.pairwise_cons] at h3
  rw [List.nodup_cons] at h4
  refine ⟨fun y hy => h1 y (List.mem_cons_of_mem _ hy), fun y hy z l1 l2 e => ?_, h3.2, h4.2⟩
  rcases List.mem_cons.mp (h2 y (List.mem_cons_of_mem _ hy) z l1 l2 e) with rfl | h
  · have := h3.1 y hy e.symm
    omega
  · exact h
theorem mem_take_idx {ws : List Nat} {k x : Nat} (hnd : ws.Nodup) (h : x ∈ ws.drop (ws.idxOf k + 1)) : x ≠ k := by
  intro e
  subst e
  obtain ⟨j, hj, e⟩ := List.mem_iff_getElem.mp h
  rw [List.getElem_drop] at e
  have hx : x ∈ ws := List.mem_of_mem_drop h
  have hi := List.idxOf_lt_length_of_mem hx
  have e2 : ws[ws.idxOf x] = x := List.getElem_idxOf hi
  rw [List.length_drop] at hj
  have := (List.getElem_inj (h₀ := by omega) (h₁ := hi) hnd).mp (e.trans e2.symm)
  omega
theorem pair_idx {row : List Int} {ws : List Nat} {k x : Nat} (hp : ws.Pairwise fun x y => row[x]? = row[y]? → x < y) (hk : k ∈ ws) (h : x ∈ ws.drop (ws.idxOf k + 1)) (e : row[k]? = row[x]?) : k < x := by
  obtain ⟨j, hj, ej⟩ := List.mem_iff_getElem.mp h
  rw [List.getElem_drop] at ej
  rw [List.length_drop] at hj
  have hi := List.idxOf_lt_length_of_mem hk
  have e2 : ws[ws.idxOf k] = k := List.getElem_idxOf hi
  have := List.pairwise_iff_getElem.mp hp (ws.idxOf k) (ws.idxOf k + 1 + j) hi (by omega) (by omega)
  rw [e2, ej] at this
  exact this e
theorem QInv.mate_in {row : List Int} {a x : Nat} {ws : List Nat} {g : Int} (h : QInv row a ws) (hg : row[a]? = some g) (hx : x ∈ ws) (e : row[x]? = some g) : ∃ m, lastIn row g a = some m ∧ m ∈ ws := by
  have hxa := h.lt x hx
  cases hm : lastIn row g a with
  | none => exact absurd e (lastIn_none hm x hxa)
  | some m =>
    obtain ⟨m1, m2, m3⟩ := lastIn_some hm
    refine ⟨m, rfl, ?_⟩
    rcases Nat.lt_trichotomy x m with l | l | l
    · exact h.up x hx m l m1 (by rw [e, m2])
    · rw [← l]; exact hx
    · exact absurd e (m3 x l hxa)
theorem QInv.join {row : List Int} {a : Nat} {ws : List Nat} {g : Int} (h : QInv row a ws) (hg : row[a]? = some g) : QInv row (a + 1) (joinQ ws a (mateOf row a)) := by
  have hna : a ∉ ws := fun m => by have := h.lt a m; omega
  have same : ∀ i, (∀ x ∈ ws.drop i, row[x]? ≠ row[a]?) → QInv row (a + 1) (insAt ws i a) := fun i hd => by
    refine ⟨fun x hx => ?_, fun x hx y l1 l2 e => ?_, ?_, ?_⟩
    · rcases mem_insAt.mp hx with rfl | hx
      · omega
      · have := h.lt x hx; omega
    · rcases mem_insAt.mp hx with rfl | hx
      · omega
      · by_cases ey : y = a
        · exact mem_insAt.mpr (.inl ey)
        · exact mem_insAt.mpr (.inr (h.up x hx y l1 (by omega) e))
    · unfold insAt
      have hp := h.ord
      rw [← List.take_append_drop i ws, List.pairwise_append] at hp
      rw [List.pairwise_append, List.pairwise_cons]
      refine ⟨hp.1, ⟨fun x hx e => absurd e.symm (hd x hx), hp.2.1⟩, fun x hx y hy e => ?_⟩
      rcases List.mem_cons.mp hy with rfl | hy
      · exact h.lt x (List.mem_of_mem_take hx)
      · exact hp.2.2 x hx y hy e
    · unfold insAt
      have hp := h.nd
      rw [← List.take_append_drop i ws, List.nodup_append] at hp
      rw [List.nodup_append, List.nodup_cons]
      refine ⟨hp.1, ⟨fun m => hna (List.mem_of_mem_drop m), hp.2.1⟩, fun x hx y hy e => ?_⟩
      rcases List.mem_cons.mp hy with rfl | hy
      · exact hna (by rw [← e]; exact List.mem_of_mem_take hx)
      · exact hp.2.2 x hx y hy e
  unfold joinQ
  rw [mateOf_at hg]
  cases hm : lastIn row g a with
  | none =>
    exact same _ (by unfold joinPl; simp)
  | some m =>
    obtain ⟨m1, m2, m3⟩ := lastIn_some hm
    unfold joinPl
    simp only
    split
    · rename_i hmw
      refine same _ fun x hx e => ?_
      rw [hg] at e
      have := pair_idx h.ord hmw hx (by rw [m2, e])
      exact m3 x this (h.lt x (List.mem_of_mem_drop hx)) e
    · refine same _ (by simp)
/-- those of a's group who wait -/
def alike (row : List Int) (ws : List Nat) (a : Nat) : List Nat := ws.filter fun x => row[x]? == row[a]?
theorem alike_last {row : List Int} {a : Nat} {ws : List Nat} {g : Int} (h : QInv row a ws) (hg : row[a]? = some g) : joinPl ws (mateOf row a) = match (alike row ws a).getLast? with
    | some m => ws.idxOf m + 1
    | none => ws.length := by
  rw [mateOf_at hg]
  have mem : ∀ x, x ∈ alike row ws a ↔ x ∈ ws ∧ row[x]? = some g := fun x => by
    unfold alike
    rw [List.mem_filter, hg]
    simp
  cases hl : (alike row ws a).getLast? with
  | none =>
    have e : alike row ws a = [] := List.getLast?_eq_none_iff.mp hl
    simp only
    cases hm : lastIn row g a with
    | none => rfl
    | some m =>
      obtain ⟨m1, m2, m3⟩ := lastIn_some hm
      unfold joinPl
      simp only
      rw [if_neg]
      intro hmw
      have := (mem m).mpr ⟨hmw, m2⟩
      rw [e] at this; simp at this
  | some L =>
    simp only
    have hL : L ∈ alike row ws a := List.mem_of_getLast? hl
    obtain ⟨L1, L2⟩ := (mem L).mp hL
    obtain ⟨m, hm, hmw⟩ := h.mate_in hg L1 L2
    obtain ⟨m1, m2, m3⟩ := lastIn_some hm
    have hmA := (mem m).mpr ⟨hmw, m2⟩
    have e : m = L := by
      obtain ⟨pre, hpre⟩ : ∃ pre, alike row ws a = pre ++ [L] := by
        obtain ⟨ys, hys⟩ := List.getLast?_eq_some_iff.mp hl
        exact ⟨ys, hys⟩
      have hord : (alike row ws a).Pairwise fun x y => row[x]? = row[y]? → x < y := h.ord.sublist List.filter_sublist
      rw [hpre] at hmA hord
      rcases List.mem_append.mp hmA with h' | h'
      · have := (List.pairwise_append.mp hord).2.2 m h' L (by simp) (by rw [m2, L2])
        exact absurd L2 (m3 L this (h.lt L L1))
      · simpa using h'
    subst e
    rw [hm]
    unfold joinPl
    simp only
    rw [if_pos hmw]
/-! ### words done -/
/-- a beginning of a history, behind a arrivals and s services -/
def okP (n : Nat) : Nat → Nat → List Nat → Prop
  | _, _, [] => True
  | a, s, c :: w => (c = 97 ∧ a < n ∧ okP n (a + 1) s w) ∨ (c = 115 ∧ s < a ∧ okP n a (s + 1) w)
/-- letter, person, waiting: for each letter -/
def stepsL (row : List Int) : Nat → List Nat → List Nat → List (Nat × Nat × List Nat)
  | _, _, [] => []
  | a, ws, c :: w => if c = 97 then (c, a, joinQ ws a (mateOf row a)) :: stepsL row (a + 1) (joinQ ws a (mateOf row a)) w else match ws with
    | x :: ws' => (c, x, ws') :: stepsL row a ws' w
    | [] => []
theorem stepsL_a (row : List Int) (a : Nat) (ws w : List Nat) : stepsL row a ws (97 :: w) = (97, a, joinQ ws a (mateOf row a)) :: stepsL row (a + 1) (joinQ ws a (mateOf row a)) w := rfl
theorem stepsL_s (row : List Int) (a x : Nat) (ws w : List Nat) : stepsL row a (x :: ws) (115 :: w) = (115, x, ws) :: stepsL row a ws w := rfl
/-- who was served -/
def servedL (st : List (Nat × Nat × List Nat)) : List Nat := (st.filter fun p => p.1 == 115).map fun p => p.2.1
/-- who waits at the end -/
def waitL (st : List (Nat × Nat × List Nat)) : List Nat := match st.getLast? with
  | some p => p.2.2
  | none => []
theorem scan_ok {n : Nat} : ∀ {w : List Nat} {k a s : Nat}, (∀ c ∈ w, isL c = true) → s ≤ a → a ≤ n → (scanP n k a s w = .none ↔ okP n a s w)
  | [], k, a, s, _, _, _ => by simp [scanP, okP]
  | c :: w, k, a, s, hL, h1, h2 => by
    have hc := hL c List.mem_cons_self
    have hw : ∀ d ∈ w, isL d = true := fun d hd => hL d (List.mem_cons_of_mem _ hd)
    unfold scanP okP
    by_cases e : c = 97
    · subst e
      rw [if_pos rfl]
      by_cases e2 : a = n
      · rw [if_pos e2]
        simp
        intro h; omega
      · rw [if_neg e2, scan_ok hw (by omega) (by omega)]
        simp
        intro _; omega
    · have e' : c = 115 := by simp [isL] at hc; exact hc.resolve_left e
      subst e'
      rw [if_neg e]
      by_cases e2 : s = a
      · rw [if_pos e2]
        simp
        intro h; omega
      · rw [if_neg e2, scan_ok hw (by omega) h2]
        simp
        intro _; omega
theorem okP_let {n : Nat} : ∀ {w : List Nat} {a s : Nat}, okP n a s w → ∀ c ∈ w, isL c = true
  | [], _, _, _, c, h => by simp at h
  | d :: w, a, s, h, c, hc => by
    rcases List.mem_cons.mp hc with rfl | hc
    · rcases h with ⟨rfl, _⟩ | ⟨rfl, _⟩ <;> rfl
    · exact h.elim (fun q => okP_let q.2.2 c hc) fun q => okP_let q.2.2 c hc
theorem badW_okP {n : Nat} {w : List Nat} (h : okP n 0 0 w) : badW w = [] := badW_nil fun i d hd => okP_let h d (List.mem_of_getElem? hd)
theorem wErr_none {n : Nat} {w : List Nat} : wErrL n w = .none ↔ okP n 0 0 w := by
  unfold wErrL
  constructor
  · intro h
    cases e : badW w with
    | nil => rw [e] at h; exact (scan_ok (badW_none e) (Nat.le_refl _) (Nat.zero_le _)).mp h
    | cons i r => rw [e] at h; cases h
  · intro h
    rw [badW_okP h]
    exact (scan_ok (okP_let h) (Nat.le_refl _) (Nat.zero_le _)).mpr h
end LawP
set_option Elab.async false
set_option linter.all false
namespace VL
open PySem PySem.Spec PyProof.Rows L2 HT
@[simp] theorem atI_one {α : Type} (x y : α) (xs : List α) : atI (x :: y :: xs) 1 = some y := by have := @atI_nat _ (x :: y :: xs) 1 _ rfl; exact this
@[simp] theorem atI_two {α : Type} (x y z : α) (xs : List α) : atI (x :: y :: z :: xs) 2 = some z := by have := @atI_nat _ (x :: y :: z :: xs) 2 _ rfl; exact this
@[simp] theorem atI_three {α : Type} (x y z u : α) (xs : List α) : atI (x :: y :: z :: u :: xs) 3 = some u := by have := @atI_nat _ (x :: y :: z :: u :: xs) 3 _ rfl; exact this
end VL
namespace LawP
open PySem VL
/-! ### lists of persons -/
theorem pn_ex (ws : List Nat) (m : Option Nat) : (∃ x, x ∈ ws ∧ (pN x).eqv (oN m) = true) ↔ ∃ k, m = some k ∧ k ∈ ws := by
  constructor
  · rintro ⟨x, hx, e⟩
    cases m with
    | none => simp [pN, oN, PyData.eqv] at e
    | some k =>
      simp [pN, oN] at e
      have : x = k := by omega
      subst this
      exact ⟨_, rfl, hx⟩
  · rintro ⟨k, rfl, hk⟩
    exact ⟨k, hk, by simp [pN, oN]⟩
theorem pn_plain (ws : List Nat) : PyData.plainAll (ws.map pN) = true := by
  have : ws.map pN = (ws.map fun (n : Nat) => (n : Int)).map PyData.int := by rw [List.map_map]; rfl
  rw [this, plainAll_ints]
theorem pn_depth (ws : List Nat) : PyData.depthAll (ws.map pN) = 0 := by
  induction ws with
  | nil => rfl
  | cons w ws ih => rw [List.map_cons, depthAll_cons, ih]; rfl
theorem pn_ix {ws : List Nat} {k : Nat} (h : k ∈ ws) : ixOf (ws.map pN) (.int (k : Int)) = some (ws.idxOf k) := by
  induction ws with
  | nil => simp at h
  | cons w ws ih =>
    rw [List.map_cons, ixOf, List.idxOf_cons]
    by_cases e : w = k
    · have e1 : (pN w).eqv (.int (k : Int)) = true := by subst e; simp [pN]
      rw [if_pos e1, e]; simp
    · have e1 : ¬ (pN w).eqv (.int (k : Int)) = true := by simp [pN]; omega
      have e2 : (w == k) = false := beq_eq_false_iff_ne.mpr e
      have hk : k ∈ ws := by rcases List.mem_cons.mp h with h | h; exact absurd h.symm e; exact h
      rw [if_neg e1, ih hk, e2]; rfl
theorem on_plain (m : Option Nat) : (oN m).plain = true := by cases m <;> rfl
theorem on_depth (m : Option Nat) : (oN m).depth = 0 := by cases m <;> rfl
theorem drop_at' {α : Type} {w : List α} {k : Nat} {c : α} (hc : w[k]? = some c) : w.drop k = c :: w.drop (k + 1) := by
  have hk := (List.getElem?_eq_some_iff.mp hc).1
  rw [List.drop_eq_getElem_cons hk]
  congr 1
  exact (List.getElem?_eq_some_iff.mp hc).2
theorem eqv_pN : ∀ a b : List Nat, PyData.eqvAll (a.map pN) (b.map pN) = decide (a = b)
  | [], [] => rfl
  | [], _ :: _ => rfl
  | _ :: _, [] => rfl
  | x :: a, y :: b => by
    rw [List.map_cons, List.map_cons, PyData.eqvAll, eqv_pN a b]
    have : (pN x).eqv (pN y) = decide (x = y) := by
      simp [pN]
      rw [Bool.eq_iff_iff]
      simp
      omega
    rw [this]
    by_cases h : x = y <;> simp [h]
theorem geq_tN {a b : List Nat} {Q : D → Prop} (q : Q (.py (.bool (decide (a = b))))) : gEq (.py (tN a)) (.py (tN b)) Q := by
  cases b with
  | nil => cases a <;> simpa [gEq] using q
  | cons y b =>
    have := eqv_pN a (y :: b)
    simp [gEq, pn_plain, pn_depth, PyData.plain, PyData.plainAll, PyData.depth, PyData.depthAll, PyData.eqv] at *
    rw [this]
    exact ⟨rfl, q⟩
/-! ### what a word leads to -/
/-- the order of service -/
def ordL (row : List Int) (w : List Nat) : List Nat := servedL (stepsL row 0 [] w)
/-- the mate waits -/
def joinB (row : List Int) (ws : List Nat) (a : Nat) : Bool := match mateOf row a with
  | some m => decide (m ∈ ws)
  | none => false
/-- who joins the mate -/
def joinsL (row : List Int) : Nat → List Nat → List Nat → List Nat
  | _, _, [] => []
  | a, ws, c :: w => if c = 97 then (if joinB row ws a = true then [a] else []) ++ joinsL row (a + 1) (joinQ ws a (mateOf row a)) w else joinsL row a ws.tail w
/-- services before each arrival -/
def cntsL : Nat → List Nat → List Nat
  | _, [] => []
  | s, c :: w => if c = 97 then s :: cntsL s w else cntsL (s + 1) w
theorem joinsL_a (row : List Int) (a : Nat) (ws w : List Nat) : joinsL row a ws (97 :: w) = (if joinB row ws a = true then [a] else []) ++ joinsL row (a + 1) (joinQ ws a (mateOf row a)) w := rfl
theorem joinsL_s (row : List Int) (a : Nat) (ws w : List Nat) : joinsL row a ws (115 :: w) = joinsL row a ws.tail w := rfl
theorem cntsL_a (s : Nat) (w : List Nat) : cntsL s (97 :: w) = s :: cntsL s w := rfl
theorem cntsL_s (s : Nat) (w : List Nat) : cntsL s (115 :: w) = cntsL (s + 1) w := rfl
theorem servedL_a (x : Nat) (y : List Nat) (L : List (Nat × Nat × List Nat)) : servedL ((97, x, y) :: L) = servedL L := by simp [servedL]
theorem servedL_s (x : Nat) (y : List Nat) (L : List (Nat × Nat × List Nat)) : servedL ((115, x, y) :: L) = x :: servedL L := by simp [servedL]
theorem joinQ_perm (ws : List Nat) (a : Nat) (m : Option Nat) : (joinQ ws a m).Perm (a :: ws) := by
  unfold joinQ insAt
  refine List.perm_middle.trans ?_
  rw [List.take_append_drop]
theorem goodW_okP {n : Nat} : ∀ {w : List Nat} {a s : Nat}, goodW n a s w → okP n a s w
  | [], _, _, _ => trivial
  | c :: w, a, s, h => by
    rcases h with ⟨e, ha, h⟩ | ⟨e, ha, h⟩
    · exact .inl ⟨e, ha, goodW_okP h⟩
    · exact .inr ⟨e, ha, goodW_okP h⟩
theorem served_perm {row : List Int} {n : Nat} : ∀ {w : List Nat} {a s : Nat} {ws : List Nat}, goodW n a s w → ws.length + s = a → a ≤ n → (servedL (stepsL row a ws w)).Perm (ws ++ List.range' a (n - a))
  | [], a, s, ws, ⟨h1, h2⟩, e, h3 => by
    have : ws = [] := List.length_eq_zero_iff.mp (by omega)
    subst this h1
    simp [stepsL, servedL]
  | c :: w, a, s, ws, h, e, h3 => by
    rcases h with ⟨rfl, ha, h⟩ | ⟨rfl, ha, h⟩
    · rw [stepsL_a, servedL_a]
      have ih := served_perm (row := row) (ws := joinQ ws a (mateOf row a)) h (by rw [joinQ_len]; omega) ha
      refine ih.trans ?_
      have e2 : n - a = (n - (a + 1)) + 1 := by omega
      rw [e2, List.range'_succ]
      refine ((joinQ_perm ws a _).append_right _).trans ?_
      rw [List.cons_append]
      exact List.perm_middle.symm
    · cases ws with
      | nil => simp at e; omega
      | cons x ws =>
        rw [stepsL_s, servedL_s, List.cons_append]
        exact (served_perm h (by simp at e; omega) h3).cons x
theorem ordL_perm {row : List Int} {w : List Nat} (h : HistW row.length w) : (ordL row w).Perm (List.range row.length) := by
  have := served_perm (row := row) (ws := []) h rfl (Nat.zero_le _)
  rwa [List.nil_append, Nat.sub_zero, ← List.range_eq_range'] at this
end LawP
set_option Elab.async false
set_option linter.all false
set_option maxRecDepth 100000
set_option maxHeartbeats 4000000
namespace LawP
open PySem PySem.Spec PyProof.Rows L2 VL TL HT
/-! ### decimal texts -/
def digB (c : Nat) : Bool := decide (48 ≤ c) && decide (c ≤ 57)
def barW (w : List Nat) : List Nat := if w.take 1 = [45] then w.drop 1 else w
/-- the integer of at most 20 digits whose text this is -/
def readI (w : List Nat) : Option Int :=
  if 1 ≤ (barW w).length ∧ (barW w).length ≤ 20 ∧ (barW w).all digB = true then
    (if (barW w).head? = some 48 ∧ w ≠ [48] then none else some (if w.take 1 = [45] then -((NumText.digitsVal (barW w) : Nat) : Int) else (NumText.digitsVal (barW w) : Nat)))
  else none
@[simp] def oI : Option Int → PyData
  | none => .none
  | some i => .int i
theorem lit_dash : Str.ofString "-" = mkS [45] := by decide +kernel
theorem lit_zero : Str.ofString "0" = mkS [48] := by decide +kernel
theorem lit_digits : Str.ofString "0123456789" = mkS [48, 49, 50, 51, 52, 53, 54, 55, 56, 57] := by decide +kernel
theorem mem_digits (c : Nat) : decide (c ∈ [48, 49, 50, 51, 52, 53, 54, 55, 56, 57]) = digB c := by
  unfold digB
  rw [Bool.eq_iff_iff]
  simp
  omega
@[simp] def S_read_integer : SV := fun ds Q _ => ∃ w : List Nat, ds = [.py (.str (mkS w))] ∧ w.length ≤ 100000 ∧ Q (.py (oI (readI w)))
theorem l_read_integer : ∀ ds Q E, S_read_integer ds Q E → t_read_integer (envOf 3 ds) (fin Q E) := by
  rintro ds Q E ⟨w, rfl, hw, q⟩
  have c1 : cutL w none (some 1) = w.take 1 := by rw [cutL_take w (by omega)]; rfl
  have c2 : cutL w (some 1) none = w.drop 1 := by rw [cutL_drop w (by omega)]; rfl
  simp only [t_read_integer, lit_dash, lit_zero, lit_digits]
  simp [c1, c2, -lcGo]
  refine ⟨by omega, ?_⟩
  have alld : ∀ d : List Nat, d.all digB = true → NumText.AllDigits d := fun d h c hc => by
    have := List.all_eq_true.mp h c hc
    unfold digB at this
    simp at this
    omega
  have comp : ∀ (d : List Nat) (ρ : VEnv) (Q2 : D → Prop), ρ[2]? = some .un → ρ.length = 3 → d.length ≤ 20 → Q2 (.py (.list (d.map fun c => PyData.bool (digB c)))) → lcGo (tgName 2) wYes (vBin (gIn false) (vBor 2) (vC (D.py (PyData.str (mkS [48, 49, 50, 51, 52, 53, 54, 55, 56, 57]))))) Q2 ((signsD (mkS d)).map D.py) [] ρ := fun d ρ Q2 h2 h3 hd q2 => by
    rw [signsD_mkS]
    refine lc_encM encC (fun c => PyData.bool (digB c)) (fun i c hc k k1 => ?_) (by omega) q2
    match ρ, h2, h3 with
    | [a, b, .un], _, _ =>
      rw [← mem_digits] at k1
      simp [lcStep] at k1 ⊢
      exact k1
  have hm : ∀ d : List Nat, (false ∈ d.map digB) ↔ d.all digB = false := fun d => by
    refine ⟨fun h => ?_, fun h => ?_⟩
    · obtain ⟨c, hc, e⟩ := List.mem_map.mp h
      rw [List.all_eq_false]
      exact ⟨c, hc, by rw [e]; simp⟩
    · rw [List.all_eq_false] at h
      obtain ⟨c, hc, e⟩ := h
      exact List.mem_map.mpr ⟨c, hc, by simpa using e⟩
  by_cases h45 : w.take 1 = [45]
  · rw [if_pos h45]
    obtain ⟨d, rfl⟩ : ∃ d, w = 45 :: d := by
      cases w with
      | nil => simp at h45
      | cons c d => simp at h45; exact ⟨d, by rw [h45]⟩
    have er : readI (45 :: d) = if 1 ≤ d.length ∧ d.length ≤ 20 ∧ d.all digB = true then (if d.head? = some 48 then none else some (-((NumText.digitsVal d : Nat) : Int))) else none := by
      simp [readI, barW]
    rw [er] at q
    simp only [List.length_cons] at hw
    simp [-lcGo]
    refine ⟨by omega, by omega, ?_⟩
    by_cases h1 : 1 ≤ d.length
    · rw [if_pos (by omega)]
      by_cases h2 : d.length ≤ 20
      · rw [if_pos (by omega)]
        refine comp d _ _ rfl rfl h2 ?_
        have eb : d.map (fun c => PyData.bool (digB c)) = (d.map digB).map PyData.bool := by rw [List.map_map]; rfl
        rw [eb]
        simp
        refine ⟨d.map digB, by have h := allB_mk (d.map digB); rw [List.map_map] at h; exact h, ?_⟩
        cases ha : d.all digB with
        | false =>
          rw [if_pos ((hm _).mpr ha)]
          rw [ha] at q
          simpa using q
        | true =>
          rw [ha] at q
          rw [if_pos ⟨h1, h2, rfl⟩] at q
          rw [if_neg (fun h => by rw [(hm _).mp h] at ha; cases ha)]
          cases d with
          | nil => simp at h1
          | cons e0 d' =>
            refine ⟨by omega, e0, by simp, ?_⟩
            by_cases h0 : e0 = 48
            · subst h0
              simpa using q
            · simp [h0] at q
              rw [if_neg h0]
              exact ⟨_, intText_neg (x := mkS (45 :: e0 :: d')) (cs := e0 :: d') rfl (alld _ ha) (by simp) (by simp at h2 ⊢; omega), by omega, q⟩
      · rw [if_neg (by omega)]
        rw [if_neg (by omega)] at q
        exact q
    · rw [if_neg (by omega)]
      rw [if_neg (by omega)] at q
      exact q
  · rw [if_neg h45]
    have er : readI w = if 1 ≤ w.length ∧ w.length ≤ 20 ∧ w.all digB = true then (if w.head? = some 48 ∧ w ≠ [48] then none else some ((NumText.digitsVal w : Nat) : Int)) else none := by
      simp [readI, barW, h45]
    rw [er] at q
    refine ⟨by omega, ?_⟩
    by_cases h1 : 1 ≤ w.length
    · rw [if_pos (by omega)]
      by_cases h2 : w.length ≤ 20
      · rw [if_pos (by omega)]
        refine comp w _ _ rfl rfl h2 ?_
        have eb : w.map (fun c => PyData.bool (digB c)) = (w.map digB).map PyData.bool := by rw [List.map_map]; rfl
        rw [eb]
        simp
        refine ⟨w.map digB, by have h := allB_mk (w.map digB); rw [List.map_map] at h; exact h, ?_⟩
        cases ha : w.all digB with
        | false =>
          rw [if_pos ((hm _).mpr ha)]
          rw [ha] at q
          simpa using q
        | true =>
          rw [ha] at q
          rw [if_pos ⟨h1, h2, rfl⟩] at q
          rw [if_neg (fun h => by rw [(hm _).mp h] at ha; cases ha)]
          cases w with
          | nil => simp at h1
          | cons e0 d' =>
            refine ⟨by omega, e0, by simp, ?_⟩
            have num : intText? (mkS (e0 :: d')) = some ((NumText.digitsVal (e0 :: d') : Nat) : Int) := intText_digits (x := mkS (e0 :: d')) (alld _ ha) (by simp) (by simp at h2 ⊢; omega)
            by_cases h0 : e0 = 48
            · subst h0
              rw [if_pos rfl]
              by_cases h9 : d' = []
              · subst h9
                simp at q
                rw [if_pos rfl]
                exact ⟨_, num, by simp, q⟩
              · simp [h9] at q
                rw [if_neg (by simpa using h9)]
                exact q
            · simp [h0] at q
              rw [if_neg h0]
              exact ⟨_, num, by omega, q⟩
      · rw [if_neg (by omega)]
        rw [if_neg (by omega)] at q
        exact q
    · rw [if_neg (by omega)]
      rw [if_neg (by omega)] at q
      exact q
/-! ### texts of numbers with single spaces -/
theorem num_str (n : Nat) : Str.ofString (toString ((n : Nat) : Int)) = mkS (numL n) := ext_tl (by rw [tl_num])
theorem num_repr (n : Nat) : Str.ofString (Int.repr ((n : Nat) : Int)) = mkS (numL n) := num_str n
def spT (ns : List Nat) : Str := Txt.join (mkS [32]) (ns.map fun n => mkS (numL n))
theorem lit_space : Str.ofString " " = mkS [32] := by decide +kernel
@[simp] def S_row_text : SV := fun ds Q _ => ∃ ns : List Nat, ds = [.py (tN ns)] ∧ ns.length ≤ 1000 ∧ (∀ n ∈ ns, n < 10 ^ 10) ∧ Q (.py (.str (spT ns)))
theorem log_nat {n : Nat} (h : n < 10 ^ 10) : (n : Int).natAbs.log2 < 1920 := by
  rw [Int.natAbs_natCast]
  by_cases z : n = 0
  · subst z; decide
  · exact (Nat.log2_lt z).mpr (Nat.lt_trans h (Nat.lt_of_lt_of_le (by decide : 10 ^ 10 < 2 ^ 34) (Nat.pow_le_pow_right (by omega) (by omega))))
theorem sum_num : ∀ {ns : List Nat}, (∀ n ∈ ns, n < 10 ^ 10) → (((ns.map numL).map mkS).map (fun x => x.length)).sum ≤ 10 * ns.length
  | [], _ => by simp
  | n :: ns, h => by
    have h1 := numL_len (k := 10) (by omega) (h n List.mem_cons_self)
    have h2 := sum_num fun m hm => h m (List.mem_cons_of_mem _ hm)
    rw [List.map_cons, List.map_cons, List.map_cons, List.sum_cons, List.length_cons]
    have h3 : (mkS (numL n)).length = (numL n).length := by simp
    omega
theorem l_row_text : ∀ ds Q E, S_row_text ds Q E → t_row_text (envOf 2 ds) (fin Q E) := by
  rintro ds Q E ⟨ns, rfl, h1, h2, q⟩
  simp [t_row_text, lit_space, -lcGo]
  refine lc_encM' pN (fun n => PyData.str (mkS (numL n))) (fun i n hn k k1 => ?_) (by omega) ?_
  · have hlt := h2 n (List.mem_of_getElem? hn)
    simp [lcStep, pN]
    refine ⟨?_, ?_⟩
    · have := log_nat hlt
      simpa using this
    · rw [← num_repr] at k1
      exact k1
  · have ea : allS (ns.map fun n => PyData.str (mkS (numL n))) = some ((ns.map numL).map mkS) := by
      rw [← allS_mk (ns.map numL), List.map_map]; rfl
    simp
    refine ⟨_, ea, ?_, ?_⟩
    · have := sum_num h2
      rw [List.length_map, List.length_map]
      omega
    · rw [List.map_map]
      exact q
/-- an item's text -/
def itS : PyData → Str
  | .int i => Str.ofString (toString i)
  | .str z => z
  | _ => mkS []
def itOk (p : PyData) : Prop := (∃ n : Nat, n < 10 ^ 10 ∧ p = .int (n : Int)) ∨ ∃ z, p = .str z ∧ z.length ≤ 3000
@[simp] def S_x_spaced : SV := fun ds Q _ => ∃ (p : PyData) (xs : List PyData), ds = [.py p] ∧ (p = .list xs ∨ p = .tuple xs) ∧ xs.length ≤ 5000 ∧ (∀ x ∈ xs, itOk x) ∧ Q (.py (.str (Txt.join (mkS [32]) (xs.map itS))))
theorem itS_num (n : Nat) : itS (.int (n : Int)) = mkS (numL n) := num_str n
theorem sum_it : ∀ {xs : List PyData}, (∀ x ∈ xs, itOk x) → ((xs.map itS).map (fun x => x.length)).sum ≤ 3000 * xs.length
  | [], _ => by simp
  | x :: xs, h => by
    have h2 := sum_it fun m hm => h m (List.mem_cons_of_mem _ hm)
    rw [List.map_cons, List.map_cons, List.sum_cons, List.length_cons]
    have h3 : (itS x).length ≤ 3000 := by
      rcases h x List.mem_cons_self with ⟨n, hn, rfl⟩ | ⟨z, rfl, hz⟩
      · have h1 := numL_len (k := 10) (by omega) hn
        rw [itS_num]
        have h3 : (mkS (numL n)).length = (numL n).length := by simp
        omega
      · exact hz
    omega
theorem l_x_spaced : ∀ ds Q E, S_x_spaced ds Q E → t_x_spaced (envOf 2 ds) (fin Q E) := by
  rintro ds Q E ⟨p, xs, rfl, hp, h1, h2, q⟩
  have go : ∀ ρ : VEnv, ρ = envOf 2 [.py p] → ∀ Q2 : D → Prop, (∀ zs : List Str, zs = xs.map itS → Q2 (.py (.list (zs.map PyData.str)))) → lcGo (tgName 1) wYes (vCal gStr (vCons (vBor 1) vNil)) Q2 (xs.map D.py) [] ρ := by
    rintro ρ rfl Q2 q2
    have e : (xs.map fun x => PyData.str (itS x)) = (xs.map itS).map PyData.str := by rw [List.map_map]; rfl
    have := q2 _ rfl
    rw [← e] at this
    have ei : xs.map D.py = (xs.map id).map D.py := by rw [List.map_id]
    rw [ei]
    refine lc_encM id (fun x => PyData.str (itS x)) (fun i x hx k k1 => ?_) (by omega) this
    rcases h2 x (List.mem_of_getElem? hx) with ⟨n, hn, rfl⟩ | ⟨z, rfl, hz⟩
    · simp [lcStep]
      have hl := log_nat hn
      refine ⟨by simpa using hl, ?_⟩
      rw [itS_num, ← num_repr] at k1
      exact k1
    · simp [lcStep]
      exact k1
  have fin1 : ∀ zs : List Str, zs = xs.map itS → (zs.map fun x => x.length).sum ≤ 15000000 ∧ zs.length ≤ 5000 ∧ Q (.py (.str (Txt.join (mkS [32]) zs))) := fun zs e => by
    subst e
    have := sum_it h2
    exact ⟨by omega, by rw [List.length_map]; exact h1, q⟩
  rcases hp with rfl | rfl
  · simp [t_x_spaced, lit_space, -lcGo]
    refine go _ rfl _ fun zs e => ?_
    obtain ⟨a1, a2, a3⟩ := fin1 zs e
    exact ⟨zs, allS_map zs, by simp; omega, a3⟩
  · simp [t_x_spaced, lit_space, -lcGo]
    refine go _ rfl _ fun zs e => ?_
    obtain ⟨a1, a2, a3⟩ := fin1 zs e
    exact ⟨zs, allS_map zs, by simp; omega, a3⟩
@[simp] def S_check_string : SV := fun ds Q E => ∃ p : PyData, ds = [.py p] ∧ (∀ z, p = .str z → Q (.py .none)) ∧ ((∀ z, p ≠ .str z) → E ⟨"BadText", [("index", .none)]⟩)
theorem l_check_string : ∀ ds Q E, S_check_string ds Q E → t_check_string (envOf 1 ds) (fin Q E) := by
  rintro ds Q E ⟨p, rfl, q1, q2⟩
  cases p
  case str z => simpa [t_check_string] using q1 z rfl
  all_goals (have := q2 (fun z e => by cases e); simpa [t_check_string] using this)
@[simp] def S_is_group : SV := fun ds Q _ => ∃ p : PyData, ds = [.py p] ∧ Q (.py (.bool (isInt p 0 1000000000)))
theorem l_is_group : ∀ ds Q E, S_is_group ds Q E → t_is_group S_is_integer (envOf 1 ds) (fin Q E) := by
  rintro ds Q E ⟨p, rfl, q⟩
  simpa [t_is_group] using q
/-- word by word: the numbers, or the place of the first word that is none of them -/
def scanR (f : PyData → Bool) : Nat → List Str → Sum Nat (List Int)
  | _, [] => .inr []
  | k, z :: zs => match readI (sl z) with
    | some i => if f (.int i) && decide (k < 40) then (match scanR f (k + 1) zs with
      | .inr is => .inr (i :: is)
      | .inl j => .inl j) else .inl k
    | none => .inl k
def wordsOf (z : Str) : List Str := Txt.split z (mkS [32])
@[simp] def S_parse_row : SV := fun ds Q E => ∃ p : PyData, ds = [.py p] ∧ (∀ z, p = .str z → z.length ≤ 100000) ∧ (∀ z is, p = .str z → scanR (fun p => isInt p 0 1000000000) 0 (wordsOf z) = .inr is → Q (.py (tI is))) ∧
  (∀ z j, p = .str z → scanR (fun p => isInt p 0 1000000000) 0 (wordsOf z) = .inl j → E ⟨"BadText", [("index", .int (j : Nat))]⟩) ∧ ((∀ z, p ≠ .str z) → E ⟨"BadText", [("index", .none)]⟩)
theorem scanR_cons (f : PyData → Bool) (k : Nat) (z : Str) (zs : List Str) : scanR f k (z :: zs) = match readI (sl z) with
    | some i => if f (.int i) && decide (k < 40) then (match scanR f (k + 1) zs with
      | .inr is => .inr (i :: is)
      | .inl j => .inl j) else .inl k
    | none => .inl k := rfl
theorem spl_small (S : List Nat) : ∀ (l : List Nat) (k : Nat) (acc : List Nat) (n : Nat), acc.length + l.length ≤ n →
    (TL.spl S k acc l).length ≤ l.length + 1 ∧ ∀ p ∈ TL.spl S k acc l, p.length ≤ n
  | [], k, acc, n, h => by
    rw [TL.spl_nil]
    refine ⟨by simp, fun p hp => ?_⟩
    rw [List.mem_singleton] at hp
    subst hp
    simp at h
    exact h
  | c :: r, 0, acc, n, h => by
    have h' : acc.length + (r.length + 1) ≤ n := h
    unfold TL.spl
    split
    · obtain ⟨a1, a2⟩ := spl_small S r (S.length - 1) [] n (by simp; omega)
      refine ⟨by simp only [List.length_cons]; omega, fun p hp => ?_⟩
      rcases List.mem_cons.mp hp with rfl | hp
      · omega
      · exact a2 p hp
    · obtain ⟨a1, a2⟩ := spl_small S r 0 (acc ++ [c]) n (by simp; omega)
      exact ⟨by simp only [List.length_cons]; omega, a2⟩
  | c :: r, k + 1, acc, n, h => by
    have h' : acc.length + (r.length + 1) ≤ n := h
    unfold TL.spl
    obtain ⟨a1, a2⟩ := spl_small S r k acc n (by omega)
    exact ⟨by simp only [List.length_cons]; omega, a2⟩
theorem split_small {z : Str} (hz : z.length ≤ 100000) : (Txt.split z (mkS [32])).length ≤ z.length + 1 ∧ ∀ p ∈ Txt.split z (mkS [32]), p.length ≤ z.length := by
  have e := TL.split_spl z (mkS [32]) (by decide) (TL.kind_ok (by simp [mkS]))
  obtain ⟨a1, a2⟩ := spl_small (TL.tl (mkS [32])) (TL.tl z) 0 [] z.length (by rw [TL.len_tl z]; simp)
  rw [← e] at a1 a2
  rw [List.length_map, ← TL.len_tl z] at a1
  refine ⟨a1, fun p hp => ?_⟩
  rw [TL.len_tl p]
  exact a2 _ (List.mem_map_of_mem hp)
theorem l_parse_row : ∀ ds Q E, S_parse_row ds Q E → t_parse_row S_check_string S_read_integer S_is_group (envOf 5 ds) (fin Q E) := by
  rintro ds Q E ⟨p, rfl, hs, q1, q2, q3⟩
  cases p
  case str z =>
    have hz := hs z rfl
    obtain ⟨hw1, hw2⟩ := split_small hz
    simp [t_parse_row, lit_space, -forGo, -S_read_integer, -S_is_group]
    refine ⟨by omega, ?_⟩
    have ee : enumP ((Txt.split z (mkS [32])).map PyData.str) = (Txt.split z (mkS [32])).zipIdx.map (encE PyData.str) := enumP_enc _ _
    rw [ee]
    have q1' := fun is => q1 z is rfl
    have q2' := fun j => q2 z j rfl
    unfold wordsOf at q1' q2'
    generalize Txt.split z (mkS [32]) = ws at hw1 hw2 q1' q2'
    refine for_enc (encE PyData.str) (fun k ρ => ∃ (is : List Int) (x y u : VL.Slot), ρ = [.shr (.py (.str z)), .own (.py (.list (is.map PyData.int))), x, y, u] ∧ is.length = k ∧
      (∀ js, scanR (fun p => isInt p 0 1000000000) k (ws.drop k) = .inr js → Q (.py (tI (is ++ js)))) ∧ (∀ j, scanR (fun p => isInt p 0 1000000000) k (ws.drop k) = .inl j → E ⟨"BadText", [("index", .int (j : Nat))]⟩)) ⟨[], _, _, _, rfl, rfl, fun js h => q1' js h, fun j h => q2' j h⟩ (fun k d ρ hd iv nx ct hn => ?_) (fun ρ iv => ?_)
    · obtain ⟨is, x, y, u, rfl, i1, i2, i3⟩ := iv
      obtain ⟨zz, hzz, rfl⟩ := zipIdx_at hd
      have hk := (List.getElem?_eq_some_iff.mp hzz).1
      have hzl := hw2 zz (List.mem_of_getElem? hzz)
      rw [drop_at' hzz, scanR_cons] at i2 i3
      simp [-S_read_integer, -S_is_group]
      refine ⟨sl zz, by rw [mkS_sl], by rw [slen]; omega, ?_⟩
      cases hr : readI (sl zz) with
      | none =>
        rw [hr] at i3
        have := i3 k rfl
        simpa [isInt] using this
      | some i =>
        rw [hr] at i2 i3
        simp only at i2 i3
        cases hb : isInt (.int i) 0 1000000000 with
        | false =>
          rw [hb] at i3
          have := i3 k rfl
          simpa [hb] using this
        | true =>
          rw [hb] at i2 i3
          by_cases h40 : k < 40
          · simp only [h40, decide_true, Bool.and_self, if_true] at i2 i3
            simp [hb]
            rw [if_neg (by omega)]
            refine ⟨by omega, (hn _ ⟨is ++ [i], .shr (.py (.int (k : Nat))), .shr (.py (.str zz)), .shr (.py (.int i)), by rw [List.map_append]; rfl, by simp [i1], fun js h => ?_, fun j h => ?_⟩).1⟩
            · rw [h] at i2
              rw [List.append_assoc]
              exact i2 (i :: js) rfl
            · rw [h] at i3
              exact i3 j rfl
          · have := i3 k (by simp [h40])
            simp [hb]
            rw [if_pos (by omega)]
            exact this
    · obtain ⟨is, x, y, u, rfl, i1, i2, i3⟩ := iv
      rw [List.length_zipIdx, List.drop_length] at i2
      have := i2 [] rfl
      simpa using this
  all_goals (have := q3 (fun z e => by cases e); simpa [t_parse_row] using this)
theorem lit_none : Str.ofString "none" = mkS [110, 111, 110, 101] := by decide +kernel
def perT (ns : List Nat) : Str := if ns = [] then mkS [110, 111, 110, 101] else spT ns
@[simp] def S_persons_text : SV := fun ds Q _ => ∃ ns : List Nat, ds = [.py (tN ns)] ∧ ns.length ≤ 1000 ∧ (∀ n ∈ ns, n < 10 ^ 10) ∧ Q (.py (.str (perT ns)))
theorem spT_nil : spT [] = mkS [] := rfl
theorem spT_tl (ns : List Nat) : TL.tl (spT ns) = TL.joinL [32] (ns.map numL) := by
  unfold spT
  rw [TL.join_eq, TL.tl_join, List.map_map]
  rfl
theorem joinL_ne {S p : List Nat} {r : List (List Nat)} (h : p ≠ []) : TL.joinL S (p :: r) ≠ [] := by
  cases r with
  | nil => exact h
  | cons q r => exact fun e => h (List.append_eq_nil_iff.mp e).1
theorem spT_ne {ns : List Nat} (h : ns ≠ []) : (spT ns).length ≠ 0 := by
  cases ns with
  | nil => exact absurd rfl h
  | cons n ns =>
    rw [TL.len_tl, spT_tl]
    exact fun e => joinL_ne (TL.numL_ne n) (List.length_eq_zero_iff.mp e)
theorem spT_len {ns : List Nat} (h : ∀ n ∈ ns, n < 10 ^ 10) : (spT ns).length ≤ 11 * ns.length := by
  unfold spT
  rw [TL.join_eq]
  have e2 : (ns.map fun n => mkS (numL n)) = (ns.map numL).map mkS := by rw [List.map_map]; rfl
  have := StrLaws.join_length_le (mkS [32]) (ns.map fun n => mkS (numL n))
  have h2 := sum_num h
  have e1 : (mkS [32]).length = 1 := by simp
  rw [e1, List.length_map, e2] at this
  rw [e2]
  omega
theorem l_persons_text : ∀ ds Q E, S_persons_text ds Q E → t_persons_text (envOf 2 ds) (fin Q E) := by
  rintro ds Q E ⟨ns, rfl, h1, h2, q⟩
  simp [t_persons_text, lit_space, lit_none, -lcGo]
  refine lc_encM' pN (fun n => PyData.str (mkS (numL n))) (fun i n hn k k1 => ?_) (by omega) ?_
  · have hlt := h2 n (List.mem_of_getElem? hn)
    simp [lcStep, pN]
    refine ⟨?_, ?_⟩
    · have := log_nat hlt
      simpa using this
    · rw [← num_repr] at k1
      exact k1
  · have ea : allS (ns.map fun n => PyData.str (mkS (numL n))) = some ((ns.map numL).map mkS) := by
      rw [← allS_mk (ns.map numL), List.map_map]; rfl
    simp
    refine ⟨_, ea, ?_, ?_⟩
    · have := sum_num h2
      rw [List.length_map, List.length_map]
      omega
    · rw [List.map_map]
      have e : Txt.join (mkS [32]) (ns.map (mkS ∘ numL)) = spT ns := rfl
      rw [e]
      have hl := spT_len h2
      refine ⟨by omega, ?_⟩
      unfold perT at q
      by_cases hn : ns = []
      · rw [if_pos hn] at q
        subst hn
        have e0 : (spT []).length = 0 := rfl
        rw [if_pos e0]
        exact q
      · rw [if_neg hn] at q
        rw [if_neg (spT_ne hn)]
        exact q
@[simp] def S_parse_persons : SV := fun ds Q E => ∃ (r : List PyData) (p : PyData), ds = [.py (.tuple r), .py p] ∧ r.length ≤ 100000 ∧ (∀ z, p = .str z → z.length ≤ 100000) ∧ (∀ z, p = .str z → z = mkS [110, 111, 110, 101] → Q (.py (.tuple []))) ∧
  (∀ z is, p = .str z → z ≠ mkS [110, 111, 110, 101] → scanR (fun p => isInt p 0 (r.length - 1)) 0 (wordsOf z) = .inr is → Q (.py (tI is))) ∧
  (∀ z j, p = .str z → z ≠ mkS [110, 111, 110, 101] → scanR (fun p => isInt p 0 (r.length - 1)) 0 (wordsOf z) = .inl j → E ⟨"BadText", [("index", .int (j : Nat))]⟩) ∧ ((∀ z, p ≠ .str z) → E ⟨"BadText", [("index", .none)]⟩)
theorem l_parse_persons : ∀ ds Q E, S_parse_persons ds Q E → t_parse_persons S_check_string S_read_integer S_is_integer (envOf 6 ds) (fin Q E) := by
  rintro ds Q E ⟨r, p, rfl, hr, hs, q0, q1, q2, q3⟩
  cases p
  case str z =>
    have hz := hs z rfl
    obtain ⟨hw1, hw2⟩ := split_small hz
    simp [t_parse_persons, lit_space, lit_none, -forGo, -S_read_integer, -S_is_integer]
    split
    · exact q0 z rfl ‹_›
    rename_i hnn
    refine ⟨by omega, ?_⟩
    have ee : enumP ((Txt.split z (mkS [32])).map PyData.str) = (Txt.split z (mkS [32])).zipIdx.map (encE PyData.str) := enumP_enc _ _
    rw [ee]
    have q1' := fun is => q1 z is rfl hnn
    have q2' := fun j => q2 z j rfl hnn
    unfold wordsOf at q1' q2'
    generalize Txt.split z (mkS [32]) = ws at hw1 hw2 q1' q2'
    refine for_enc (encE PyData.str) (fun k ρ => ∃ (is : List Int) (x y u : VL.Slot), ρ = [.shr (.py (.tuple r)), .shr (.py (.str z)), .own (.py (.list (is.map PyData.int))), x, y, u] ∧ is.length = k ∧
      (∀ js, scanR (fun p => isInt p 0 (r.length - 1)) k (ws.drop k) = .inr js → Q (.py (tI (is ++ js)))) ∧ (∀ j, scanR (fun p => isInt p 0 (r.length - 1)) k (ws.drop k) = .inl j → E ⟨"BadText", [("index", .int (j : Nat))]⟩)) ⟨[], _, _, _, rfl, rfl, fun js h => q1' js h, fun j h => q2' j h⟩ (fun k d ρ hd iv nx ct hn => ?_) (fun ρ iv => ?_)
    · obtain ⟨is, x, y, u, rfl, i1, i2, i3⟩ := iv
      obtain ⟨zz, hzz, rfl⟩ := zipIdx_at hd
      have hk := (List.getElem?_eq_some_iff.mp hzz).1
      have hzl := hw2 zz (List.mem_of_getElem? hzz)
      rw [drop_at' hzz, scanR_cons] at i2 i3
      simp [-S_read_integer, -S_is_integer]
      refine ⟨sl zz, by rw [mkS_sl], by rw [slen]; omega, ?_⟩
      cases hr : readI (sl zz) with
      | none =>
        rw [hr] at i3
        have := i3 k rfl
        simpa [isInt] using this
      | some i =>
        rw [hr] at i2 i3
        simp only at i2 i3
        cases hb : isInt (.int i) 0 (r.length - 1) with
        | false =>
          rw [hb] at i3
          have := i3 k rfl
          simpa [hb] using this
        | true =>
          rw [hb] at i2 i3
          by_cases h40 : k < 40
          · simp only [h40, decide_true, Bool.and_self, if_true] at i2 i3
            simp [hb]
            rw [if_neg (by omega)]
            refine ⟨by omega, (hn _ ⟨is ++ [i], .shr (.py (.int (k : Nat))), .shr (.py (.str zz)), .shr (.py (.int i)), by rw [List.map_append]; rfl, by simp [i1], fun js h => ?_, fun j h => ?_⟩).1⟩
            · rw [h] at i2
              rw [List.append_assoc]
              exact i2 (i :: js) rfl
            · rw [h] at i3
              exact i3 j rfl
          · have := i3 k (by simp [h40])
            simp [hb]
            rw [if_pos (by omega)]
            exact this
    · obtain ⟨is, x, y, u, rfl, i1, i2, i3⟩ := iv
      rw [List.length_zipIdx, List.drop_length] at i2
      have := i2 [] rfl
      simpa using this
  all_goals (have := q3 (fun z e => by cases e); simpa [t_parse_persons] using this)
/-! ### the short form -/
/-- how many signs c stand at the head -/
def runL (c : Nat) : List Nat → Nat
  | [] => 0
  | d :: r => if d = c then runL c r + 1 else 0
theorem runL_le (c : Nat) : ∀ l, runL c l ≤ l.length
  | [] => Nat.le_refl _
  | d :: r => by
    unfold runL
    split
    · have := runL_le c r; simp; omega
    · exact Nat.zero_le _
theorem runL_at (c : Nat) : ∀ (l : List Nat) (k : Nat), k < runL c l → l[k]? = some c
  | [], k, h => by simp [runL] at h
  | d :: r, 0, h => by
    unfold runL at h
    split at h
    · rename_i e; simp [e]
    · omega
  | d :: r, k + 1, h => by
    unfold runL at h
    split at h
    · rw [List.getElem?_cons_succ]; exact runL_at c r k (by omega)
    · omega
theorem runL_end (c : Nat) : ∀ (l : List Nat), l[runL c l]? ≠ some c
  | [] => by simp
  | d :: r => by
    unfold runL
    split
    · rw [List.getElem?_cons_succ]; exact runL_end c r
    · rename_i e; simpa using e
def tailW (k : Nat) : List Nat := if 1 < k then numL k else []
/-- the pieces of the short form; at most n of them -/
def shortP : Nat → List Nat → List (List Nat)
  | 0, _ => []
  | _, [] => []
  | n + 1, c :: r => (c :: tailW (runL c (c :: r))) :: shortP n ((c :: r).drop (runL c (c :: r)))
def shortL (w : List Nat) : List Nat := if w = [] then [45] else (shortP w.length w).flatten
theorem if_out {c : Prop} [Decidable c] {A B : Prop} (h : c → B → A) (b : B) : if c then A else B := by
  split
  · exact h ‹_› b
  · exact b
@[simp] def S_short_word : SV := fun ds Q _ => ∃ w : List Nat, ds = [.py (.str (mkS w))] ∧ w.length ≤ 100000 ∧ Q (.py (.str (mkS (shortL w))))
theorem lit_empty : Str.ofString "" = mkS [] := by decide +kernel
theorem l_short_word : ∀ ds Q E, S_short_word ds Q E → t_short_word (envOf 4 ds) (fin Q E) := by
  rintro ds Q E ⟨w, rfl, hw, q⟩
  simp [t_short_word, lit_empty, lit_dash]
  refine ⟨fun m ρ => ∃ (ps : List (List Nat)) (k n : Nat) (x : VL.Slot), ρ = [.shr (.py (.str (mkS w))), .own (.py (.list (ps.map fun p => .str (mkS p)))), .shr (.py (.int (k : Nat))), x] ∧ k + m = w.length ∧ m ≤ n ∧ ps.length ≤ k ∧ (∀ p ∈ ps, p.length ≤ 11 ∧ p ≠ []) ∧
    ps ++ shortP n (w.drop k) = shortP w.length w, ⟨w.length, [], 0, _, .un, rfl, by omega, Nat.le_refl _, Nat.le_refl _, by simp, rfl⟩, ?_⟩
  rintro m ρ ⟨ps, k, n, x, rfl, i1, i2, i4, i5, i3⟩
  simp
  refine ⟨by omega, ?_⟩
  by_cases hk : k < w.length
  · rw [if_pos hk]
    obtain ⟨c, hc⟩ : ∃ c, w[k]? = some c := ⟨_, List.getElem?_eq_getElem hk⟩
    have hR : runL c (w.drop k) ≤ w.length - k := by have := runL_le c (w.drop k); rwa [List.length_drop] at this
    have hR1 : 1 ≤ runL c (w.drop k) := by
      rw [drop_at' hc]; simp [runL]
    generalize hgR : runL c (w.drop k) = R at hR hR1
    have hat : ∀ j, j < R → w[k + j]? = some c := fun j hj => by
      have := runL_at c (w.drop k) j (by omega)
      rwa [List.getElem?_drop] at this
    have hend : w[k + R]? ≠ some c := by
      have := runL_end c (w.drop k)
      rwa [List.getElem?_drop, hgR] at this
    refine ⟨fun m2 ρ => ∃ e : Nat, ρ = [.shr (.py (.str (mkS w))), .own (.py (.list (ps.map fun p => .str (mkS p)))), .shr (.py (.int (k : Nat))), .shr (.py (.int (e : Nat)))] ∧ k ≤ e ∧ e + m2 = k + R, ⟨R, k, rfl, Nat.le_refl _, rfl⟩, ?_⟩
    rintro m2 ρ ⟨e, rfl, j1, j2⟩
    simp
    refine ⟨by omega, ?_⟩
    have ak : atI w (k : Int) = some c := atI_nat hc
    by_cases hj : e < k + R
    · have he : w[e]? = some c := by have := hat (e - k) (by omega); rwa [show k + (e - k) = e from by omega] at this
      rw [if_pos (by omega)]
      refine ⟨by omega, c, atI_nat he, by omega, c, ak, ?_⟩
      rw [if_pos rfl]
      exact ⟨m2 - 1, by omega, e + 1, by simp, by omega, by omega⟩
    · have he : e = k + R := by omega
      subst he
      refine if_out (fun hl hB => ?_) ?_
      · refine ⟨by omega, w[k + R], atI_nat (List.getElem?_eq_getElem hl), by omega, c, ak, ?_⟩
        have hne : w[k + R] ≠ c := fun h => hend (by rw [List.getElem?_eq_getElem hl, h])
        rw [if_neg hne]
        exact hB
      refine ⟨by omega, c, ak, ?_⟩
      have eR : ((k + R : Nat) : Int) - (k : Int) = (R : Nat) := by omega
      rw [eR, num_repr]
      obtain ⟨n', rfl⟩ : ∃ n', n = n' + 1 := ⟨n - 1, by omega⟩
      have sp : shortP (n' + 1) (w.drop k) = (c :: tailW R) :: shortP n' (w.drop (k + R)) := by
        rw [← List.drop_drop]
        have e1 := drop_at' hc
        rw [← hgR]
        generalize w.drop k = l at e1
        subst e1
        rfl
      rw [sp] at i3
      have hRd : R < 10 ^ 10 := Nat.lt_of_le_of_lt (by omega : R ≤ 100000) (by decide)
      have hRl := numL_len (k := 10) (by omega) hRd
      have nxt : ∀ p : List Nat, p = c :: tailW R → ∃ m', m' < m ∧ ∃ ps1 k1, (ps.map (fun p => PyData.str (mkS p)) ++ [PyData.str (mkS p)] = ps1.map (fun p => PyData.str (mkS p)) ∧ ((k + R : Nat) : Int) = ((k1 : Nat) : Int)) ∧ k1 + m' = w.length ∧
          ∃ x, m' ≤ x ∧ ps1.length ≤ k1 ∧ (∀ p ∈ ps1, p.length ≤ 11 ∧ p ≠ []) ∧ ps1 ++ shortP x (w.drop k1) = shortP w.length w := fun p hp => by
        refine ⟨m - R, by omega, ps ++ [p], k + R, ⟨by rw [List.map_append]; rfl, rfl⟩, by omega, n', by omega, by simp; omega, fun p' h => ?_, ?_⟩
        · rcases List.mem_append.mp h with h | h
          · exact i5 p' h
          · rw [List.mem_singleton] at h
            subst h
            subst hp
            refine ⟨?_, by simp⟩
            unfold tailW
            split <;> simp <;> omega
        · rw [List.append_assoc, hp]
          exact i3
      by_cases h1 : 1 < R
      · rw [if_pos (by omega)]
        refine ⟨?_, ?_, by omega, ?_⟩
        · exact log_nat hRd
        · simp; omega
        · have ea : mkS [c] ++ mkS (numL R) = mkS (c :: numL R) := by simp
          rw [ea]
          exact nxt _ (by simp [tailW, h1])
      · rw [if_neg (by omega)]
        exact ⟨by omega, nxt _ (by simp [tailW, h1])⟩
  · rw [if_neg hk]
    have e0 : w.drop k = [] := List.drop_eq_nil_of_le (by omega)
    have e1 : shortP n [] = [] := by cases n <;> rfl
    rw [e0, e1, List.append_nil] at i3
    have ea : allS (ps.map fun p => PyData.str (mkS p)) = some (ps.map mkS) := by
      rw [← allS_mk ps]
    have hsum : ∀ ps : List (List Nat), (∀ p ∈ ps, p.length ≤ 11 ∧ p ≠ []) → ((ps.map mkS).map fun x => x.length).sum ≤ 11 * ps.length := fun ps => by
      induction ps with
      | nil => simp
      | cons p ps ih =>
        intro h
        have h1 := (h p List.mem_cons_self).1
        have h2 := ih fun q hq => h q (List.mem_cons_of_mem _ hq)
        rw [List.map_cons, List.map_cons, List.sum_cons, List.length_cons]
        have h3 : (mkS p).length = p.length := by simp
        omega
    have hs := hsum ps i5
    have jn : Txt.join (mkS []) (ps.map mkS) = mkS ps.flatten := by
      refine ext_tl ?_
      rw [TL.join_eq, TL.tl_join]
      clear hs ea i3 i5 i4
      induction ps with
      | nil => rfl
      | cons p ps ih =>
        cases ps with
        | nil => simp [TL.joinL, TL.tl]
        | cons p2 ps =>
          rw [List.map_cons, List.map_cons, List.map_cons, List.map_cons] 
          show TL.tl (mkS p) ++ (TL.tl (mkS []) ++ TL.joinL (TL.tl (mkS [])) _) = _
          rw [List.map_cons, List.map_cons] at ih
          rw [ih]
          simp [TL.tl]
    refine ⟨_, ea, by omega, ?_, ?_⟩
    · have := StrLaws.join_length_le (mkS []) (ps.map mkS)
      rw [← TL.join_eq] at this
      have e1 : (mkS []).length = 0 := by simp
      rw [e1] at this
      omega
    · rw [jn]
      unfold shortL at q
      rw [← i3] at q
      by_cases hw0 : w = []
      · subst hw0
        have : ps = [] := i3
        subst this
        simpa using q
      · rw [if_neg hw0] at q
        rw [if_neg]
        · exact q
        · have : ps ≠ [] := fun e => by
            rw [e] at i3
            cases w with
            | nil => exact hw0 rfl
            | cons c r => simp [shortP] at i3
          cases ps with
          | nil => exact absurd rfl this
          | cons p ps =>
            have := (i5 p List.mem_cons_self).2
            cases p with
            | nil => exact absurd rfl this
            | cons a p => simp
/-- the stretches: a letter and at most two digits each; none where there is no such cut -/
def strG : List (List Nat) → List Nat → Option (List (List Nat))
  | ps, [] => some ps
  | ps, c :: r => if c = 97 ∨ c = 115 then strG (ps ++ [[c]]) r else
      if digB c = false ∨ ps = [] ∨ 2 < (ps.getLastD []).length then none else strG (ps.dropLast ++ [ps.getLastD [] ++ [c]]) r
def oL : Option (List (List Nat)) → PyData
  | none => .none
  | some ps => .list (ps.map fun p => .str (mkS p))
theorem ixN_last (n : Nat) : ixN (n + 1) (-1) = some n := by
  unfold ixN
  simp
  omega
theorem atI_last {α : Type} (xs : List α) (x : α) : atI (xs ++ [x]) (-1) = some x := by
  unfold atI
  rw [List.length_append, List.length_singleton, ixN_last]
  simp
theorem setAt_last (xs : List PyData) (x y : PyData) : setAt (xs ++ [x]) (-1) y = some (xs ++ [y]) := by
  unfold setAt
  rw [List.length_append, List.length_singleton, ixN_last]
  simp
theorem strG_cons (ps : List (List Nat)) (c : Nat) (r : List Nat) : strG ps (c :: r) = if c = 97 ∨ c = 115 then strG (ps ++ [[c]]) r else
      if digB c = false ∨ ps = [] ∨ 2 < (ps.getLastD []).length then none else strG (ps.dropLast ++ [ps.getLastD [] ++ [c]]) r := rfl
@[simp] def S_stretches_in : SV := fun ds Q _ => ∃ w : List Nat, ds = [.py (.str (mkS w))] ∧ w.length ≤ 100000 ∧ Q (.py (oL (strG [] w)))
theorem lit_a' : Str.ofString "a" = mkS [97] := by decide +kernel
theorem lit_s' : Str.ofString "s" = mkS [115] := by decide +kernel
theorem l_stretches_in : ∀ ds Q E, S_stretches_in ds Q E → t_stretches_in (envOf 3 ds) (fin Q E) := by
  rintro ds Q E ⟨w, rfl, hw, q⟩
  simp [t_stretches_in, lit_a', lit_s', lit_digits, -forGo]
  have ee : (signsD (mkS w)).map D.py = (w.map encC).map D.py := by rw [signsD_mkS]
  rw [signsD_mkS]
  refine for_enc encC (fun k ρ => ∃ (ps : List (List Nat)) (x : VL.Slot), ρ = [.shr (.py (.str (mkS w))), .own (.py (.list (ps.map fun p => .str (mkS p)))), x] ∧ ps.length ≤ k ∧
    (∀ p ∈ ps, 1 ≤ p.length ∧ p.length ≤ 3) ∧ strG ps (w.drop k) = strG [] w) ⟨[], _, rfl, Nat.le_refl _, by simp, rfl⟩ (fun k c ρ hd iv nx ct hn => ?_) (fun ρ iv => ?_)
  · obtain ⟨ps, x, rfl, i1, i2, i3⟩ := iv
    rw [drop_at' hd, strG_cons] at i3
    simp
    have dg : (¬c = 48 ∧ ¬c = 49 ∧ ¬c = 50 ∧ ¬c = 51 ∧ ¬c = 52 ∧ ¬c = 53 ∧ ¬c = 54 ∧ ¬c = 55 ∧ ¬c = 56 ∧ ¬c = 57) ↔ digB c = false := by
      unfold digB
      simp
      omega
    have hk := (List.getElem?_eq_some_iff.mp hd).1
    by_cases h1 : c = 97 ∨ c = 115
    · rw [if_pos (by omega)]
      rw [if_pos h1] at i3
      refine ⟨by omega, (hn _ ⟨ps ++ [[c]], _, by rw [List.map_append]; rfl, by simp; omega, fun p hp => ?_, i3⟩).1⟩
      rcases List.mem_append.mp hp with h | h
      · exact i2 p h
      · rw [List.mem_singleton] at h
        subst h
        simp
    · rw [if_neg (by omega)]
      rw [if_neg h1] at i3
      have bad : digB c = false ∨ ps = [] ∨ 2 < (ps.getLastD []).length → Q (D.py PyData.none) := fun h => by
        rw [if_pos h] at i3
        rw [← i3] at q
        exact q
      by_cases h2 : digB c = false
      · rw [if_pos (dg.mpr h2)]
        exact bad (.inl h2)
      rw [if_neg (fun h => h2 (dg.mp h))]
      by_cases h3 : ps = []
      · rw [if_pos h3]
        exact bad (.inr (.inl h3))
      rw [if_neg h3]
      obtain ⟨qs, p, rfl⟩ : ∃ qs p, ps = qs ++ [p] := ⟨ps.dropLast, ps.getLast h3, (List.dropLast_concat_getLast h3).symm⟩
      have hp := i2 p (List.mem_append_right _ (List.mem_singleton.mpr rfl))
      have ea : atI ((qs ++ [p]).map fun p => PyData.str (mkS p)) (-1) = some (.str (mkS p)) := by
        rw [List.map_append]
        exact atI_last _ _
      have es : ∀ r, setAt ((qs ++ [p]).map fun p => PyData.str (mkS p)) (-1) (.str (mkS r)) = some ((qs ++ [r]).map fun p => PyData.str (mkS p)) := fun r => by
        rw [List.map_append, List.map_append]
        exact setAt_last _ _ _
      have gl : (qs ++ [p]).getLastD [] = p := by simp
      rw [gl] at bad i3
      rw [List.dropLast_concat] at i3
      refine ⟨_, ea, ?_⟩
      simp
      refine ⟨by omega, ?_⟩
      by_cases h4 : 2 < p.length
      · rw [if_pos (by omega)]
        exact bad (.inr (.inr h4))
      rw [if_neg (by omega)]
      rw [if_neg (by simp [h2, h4])] at i3
      refine ⟨_, by simpa using ea, ?_⟩
      simp
      refine ⟨by omega, _, by simpa using es _, (hn _ ⟨qs ++ [p ++ [c]], _, rfl, by simpa using Nat.le_succ_of_le i1, fun r hr => ?_, i3⟩).1⟩
      rcases List.mem_append.mp hr with h | h
      · exact i2 r (List.mem_append_left _ h)
      · rw [List.mem_singleton] at h
        subst h
        simp
        omega
  · obtain ⟨ps, x, rfl, i1, i2, i3⟩ := iv
    rw [List.drop_length] at i3
    have e : strG ps [] = some ps := by cases ps <;> rfl
    rw [e] at i3
    rw [← i3] at q
    simpa [oL] using q
def pcN (p : List Nat) : Nat := if p.drop 1 = [] then 1 else NumText.digitsVal (p.drop 1)
def pcW (p : List Nat) : List Nat := List.replicate (pcN p) (p.headD 0)
def wordG (ps : List (List Nat)) : List Nat := (ps.map pcW).flatten
def longW (w : List Nat) : Option (List Nat) :=
  match (if w = [45] then some [] else strG [] w) with
  | none => none
  | some ps => if 80 < (wordG ps).length ∨ shortL (wordG ps) ≠ w then none else some (wordG ps)
def pcOk (p : List Nat) : Prop := ∃ c ds, p = c :: ds ∧ ds.length ≤ 2 ∧ ds.all digB = true
theorem strG_ok : ∀ (w : List Nat) (ps qs : List (List Nat)), (∀ p ∈ ps, pcOk p) → strG ps w = some qs → (∀ p ∈ qs, pcOk p) ∧ qs.length ≤ ps.length + w.length
  | [], ps, qs, h, e => by
    have e' : strG ps [] = some ps := by cases ps <;> rfl
    rw [e'] at e
    cases e
    exact ⟨h, by simp⟩
  | c :: r, ps, qs, h, e => by
    rw [strG_cons] at e
    split at e
    · have := strG_ok r _ qs (fun p hp => ?_) e
      · exact ⟨this.1, by have := this.2; simp at this ⊢; omega⟩
      rcases List.mem_append.mp hp with hp | hp
      · exact h p hp
      · rw [List.mem_singleton] at hp
        exact ⟨c, [], hp, by simp, rfl⟩
    · split at e
      · cases e
      · rename_i hb
        simp only [not_or] at hb
        obtain ⟨b1, b2, b3⟩ := hb
        obtain ⟨xs, p, rfl⟩ : ∃ xs p, ps = xs ++ [p] := ⟨ps.dropLast, ps.getLast b2, (List.dropLast_concat_getLast b2).symm⟩
        have gl : (xs ++ [p]).getLastD [] = p := by simp
        rw [gl] at e b3
        rw [List.dropLast_concat] at e
        have := strG_ok r _ qs (fun q hq => ?_) e
        · exact ⟨this.1, by have := this.2; simp at this ⊢; omega⟩
        rcases List.mem_append.mp hq with hq | hq
        · exact h q (List.mem_append_left _ hq)
        · rw [List.mem_singleton] at hq
          obtain ⟨c0, ds, e0, e1, e2⟩ := h p (List.mem_append_right _ (List.mem_singleton.mpr rfl))
          subst e0
          refine ⟨c0, ds ++ [c], hq, by simp at b3 ⊢; omega, by simp [e2]; simpa using b1⟩
theorem alld (d : List Nat) (h : d.all digB = true) : NumText.AllDigits d := fun c hc => by
  have := List.all_eq_true.mp h c hc
  unfold digB at this
  simp at this
  omega
theorem digs2 {ds : List Nat} (h : ds.length ≤ 2) (e : ds.all digB = true) : NumText.digitsVal ds ≤ 99 := by
  have hd := alld ds e
  match ds, h with
  | [], _ => simp [NumText.digitsVal]
  | [a], _ =>
    have h1 := hd a (by simp)
    simp [NumText.digitsVal]
    omega
  | [a, b], _ =>
    have h1 := hd a (by simp)
    have h2 := hd b (by simp)
    simp [NumText.digitsVal]
    omega
theorem pcW_len {p : List Nat} (h : pcOk p) : (pcW p).length ≤ 99 := by
  obtain ⟨c, ds, rfl, e1, e2⟩ := h
  have := digs2 e1 e2
  unfold pcW pcN
  rw [List.length_replicate]
  split
  · omega
  · exact this
theorem wordG_len : ∀ {ps : List (List Nat)}, (∀ p ∈ ps, pcOk p) → ((ps.map pcW).map List.length).sum ≤ 99 * ps.length
  | [], _ => by simp
  | p :: ps, h => by
    have h1 := pcW_len (h p List.mem_cons_self)
    have h2 := wordG_len fun q hq => h q (List.mem_cons_of_mem _ hq)
    rw [List.map_cons, List.map_cons, List.sum_cons, List.length_cons]
    omega
@[simp] def S_long_word : SV := fun ds Q E => ∃ p : PyData, ds = [.py p] ∧ (∀ z, p = .str z → z.length ≤ 100000) ∧ (∀ z w, p = .str z → longW (sl z) = some w → Q (.py (.str (mkS w)))) ∧
  (∀ z, p = .str z → longW (sl z) = none → E ⟨"BadText", [("index", .int 0)]⟩) ∧ ((∀ z, p ≠ .str z) → E ⟨"BadText", [("index", .none)]⟩)
theorem lit_one : Str.ofString "1" = mkS [49] := by decide +kernel
theorem l_long_word : ∀ ds Q E, S_long_word ds Q E → t_long_word S_check_string S_stretches_in S_short_word (envOf 4 ds) (fin Q E) := by
  rintro ds Q E ⟨p, rfl, hs, q1, q2, q3⟩
  cases p
  case str z =>
    have hz := hs z rfl
    have q1' := fun w => q1 z w rfl
    have q2' := q2 z rfl
    have ez := mkS_sl z
    have hzl := slen z
    generalize sl z = w at q1' q2' ez hzl
    subst ez
    clear q1 q2 q3 hs
    simp [t_long_word, lit_empty, lit_one, lit_dash, -lcGo, -S_stretches_in, -S_short_word]
    have comp : ∀ (ps : List (List Nat)) (ρ : VEnv) (K : D → Prop), ρ[3]? = some .un → ρ.length = 4 → (∀ p ∈ ps, pcOk p) → ps.length ≤ 100001 → K (.py (.list (ps.map fun p => .str (mkS (pcW p))))) →
        lcGo (tgName 3) wYes (vBin gMulA (vBin gIx (vBor 3) (vC (D.py (PyData.int 0)))) (vCal gInt (vCons (vOrS (vSl gSl (vBor 3) (VL.oAt (vC (D.py (PyData.int 1)))) oNo) (vC (D.py (PyData.str (mkS [49]))))) vNil)))
          K ((ps.map fun p => PyData.str (mkS p)).map D.py) [] ρ := fun ps ρ K h3 h4 hok hl hK => by
      refine lc_encM (fun p => PyData.str (mkS p)) (fun p => PyData.str (mkS (pcW p))) (fun i p hp k k1 => ?_) (by omega) hK
      obtain ⟨c, ds, rfl, e1, e2⟩ := hok p (List.mem_of_getElem? hp)
      match ρ, h3, h4 with
      | [a, b, d, .un], _, _ =>
        simp [lcStep]
        have ec : cutL (c :: ds) (some 1) none = ds := by rw [cutL_drop (c :: ds) (by omega)]; rfl
        rw [ec]
        have k1' : k (some (PyData.str (mkS (List.replicate (pcN (c :: ds)) c)))) := k1
        have eN : pcN (c :: ds) = if ds = [] then 1 else NumText.digitsVal ds := rfl
        have hN : NumText.digitsVal ds ≤ 99 := digs2 e1 e2
        refine ⟨by omega, by omega, ?_⟩
        by_cases hd0 : ds = []
        · rw [if_pos hd0]
          rw [eN, if_pos hd0] at k1'
          have i1 : intText? (mkS [49]) = some ((NumText.digitsVal [49] : Nat) : Int) := intText_digits (x := mkS [49]) (alld _ rfl) (by simp) (by simp)
          exact ⟨_, i1, by decide, k1'⟩
        · rw [if_neg hd0]
          rw [eN, if_neg hd0] at k1'
          have i1 : intText? (mkS ds) = some ((NumText.digitsVal ds : Nat) : Int) := intText_digits (x := mkS ds) (alld _ e2) (by simpa using hd0) (by simp; omega)
          refine ⟨_, i1, by omega, by omega, ?_⟩
          rw [Int.toNat_natCast]
          exact k1'
    by_cases h45 : w = [45]
    · rw [if_pos h45]
      have hok : ∀ p ∈ ([] : List (List Nat)), pcOk p := by simp
      have hln : ([] : List (List Nat)).length ≤ 100001 := by simp
      refine comp ([] : List (List Nat)) _ _ rfl rfl hok hln ?_
      have ea : allS (([] : List (List Nat)).map fun p => PyData.str (mkS (pcW p))) = some ((([] : List (List Nat)).map pcW).map mkS) := by
        rw [← allS_mk (([] : List (List Nat)).map pcW), List.map_map]; rfl
      have hl := wordG_len hok
      have hl2 : (((([] : List (List Nat)).map pcW).map mkS).map fun x => x.length).sum ≤ 99 * ([] : List (List Nat)).length := by
        have e : ((([] : List (List Nat)).map pcW).map mkS).map (fun x => x.length) = (([] : List (List Nat)).map pcW).map List.length := by rw [List.map_map]; refine List.map_congr_left fun x _ => by simp
        rw [e]; exact hl
      have hl3 : (wordG ([] : List (List Nat))).length ≤ 99 * ([] : List (List Nat)).length := by
        unfold wordG
        rw [List.length_flatten]; exact hl
      have ej : Txt.join (mkS []) ((([] : List (List Nat)).map pcW).map mkS) = mkS (wordG ([] : List (List Nat))) := join0 _
      have eL : longW w = some [] := by rw [h45]; decide +kernel
      have := q1' [] eL
      subst h45
      simp [-S_short_word]
      refine ⟨[], rfl, by simp, ?_⟩
      have e0 : Txt.join (mkS []) [] = mkS [] := rfl
      rw [e0]
      simp [shortL]
      exact this
    · rw [if_neg h45]
      refine ⟨w, rfl, by omega, ?_⟩
      have eL : longW w = match strG [] w with
        | none => none
        | some ps => if 80 < (wordG ps).length ∨ shortL (wordG ps) ≠ w then none else some (wordG ps) := by unfold longW; rw [if_neg h45]
      cases hg : strG [] w with
      | none =>
        rw [hg] at eL
        have := q2' eL
        simpa [oL] using this
      | some ps =>
      rw [hg] at eL
      obtain ⟨hok, hln⟩ := strG_ok w [] ps (by simp) hg
      have hln : ps.length ≤ 100001 := by simp at hln; omega
      simp [oL, -lcGo, -S_short_word]
      rw [← List.map_map]
      refine comp ps _ _ rfl rfl hok hln ?_
      have ea : allS (ps.map fun p => PyData.str (mkS (pcW p))) = some ((ps.map pcW).map mkS) := by
        rw [← allS_mk (ps.map pcW), List.map_map]; rfl
      have hl := wordG_len hok
      have hl2 : (((ps.map pcW).map mkS).map fun x => x.length).sum ≤ 99 * ps.length := by
        have e : ((ps.map pcW).map mkS).map (fun x => x.length) = (ps.map pcW).map List.length := by rw [List.map_map]; refine List.map_congr_left fun x _ => by simp
        rw [e]; exact hl
      have hl3 : (wordG ps).length ≤ 99 * ps.length := by
        unfold wordG
        rw [List.length_flatten]; exact hl
      have ej : Txt.join (mkS []) ((ps.map pcW).map mkS) = mkS (wordG ps) := join0 _
      simp only []
      refine ⟨_, ea, ?_, ?_⟩
      · have e1 : (mkS []).length = 0 := by simp
        rw [e1]
        omega
      rw [ej]
      simp
      refine ⟨by omega, ?_⟩
      by_cases hbig : 80 < (wordG ps).length
      · rw [if_pos (by omega)]
        exact q2' (by rw [eL]; simp [hbig])
      rw [if_neg (by omega)]
      refine ⟨by omega, ?_⟩
      by_cases hs : shortL (wordG ps) = w
      · rw [if_pos hs]
        exact q1' _ (by rw [eL]; simp [hbig, hs])
      · rw [if_neg hs]
        exact q2' (by rw [eL]; simp [hs])
  all_goals (have := q3 (fun z e => by cases e); simpa [t_long_word] using this)
end LawP
set_option Elab.async false
set_option linter.all false
set_option maxRecDepth 100000
set_option maxHeartbeats 4000000
namespace LawP
open PySem PySem.Spec PyProof.Rows L2 VL
def t_law_shortened : VS :=
  (sSeq (sPar [1, 2] (mCons false (vC (.py (.str ""))) (mCons false (vC (.py (.int 0))) mNil)))
  (sSeq (sFor (iR1 (vCons (vCal gLen (vCons (vBor 0) vNil)) vNil)) (tgName 3)
  (sSeq (sSet 2 (vBin gAdd (vBor 2) (vC (.py (.int 1)))))
  (sIf (wOr (vTst (vBin gEq (vBin gAdd (vBor 3) (vC (.py (.int 1)))) (vCal gLen (vCons (vBor 0) vNil)))) (vTst (vBin gNe (vBin gIx (vBor 0) (vBin gAdd (vBor 3) (vC (.py (.int 1))))) (vBin gIx (vBor 0) (vBor 3)))))
  (sSeq (sSet 1 (vBin gAdd (vBin gAdd (vBor 1) (vBin gIx (vBor 0) (vBor 3))) (vIf (vTst (vBin gGt (vBor 2) (vC (.py (.int 1))))) (vCal gStr (vCons (vBor 2) vNil)) (vC (.py (.str ""))))))
  (sSet 2 (vC (.py (.int 0)))))
  sNext)))
  (sRet (vIf (vTst (vBin gNe (vBor 0) (vC (.py (.str ""))))) (vVar 1) (vC (.py (.str "-")))))))
def t_law_changed (S_law_take : SV) (S_law_pick : SV) (S_x_spaced : SV) : VS :=
  (sSeq (sPar [2, 3] (mCons false (vCall S_law_take (vCons (vVar 0) (vCons (vBin gAdd (vCal gLen (vCons (vBor 1) vNil)) (vC (.py (.int 1)))) vNil))) (mCons false (vMth isS gTSplit (vBor 1) (vCons (vC (.py (.str " "))) vNil)) mNil)))
  (sSeq (sPar [4, 5] (mCons false (vCall S_law_take (vCons (vVar 0) (vCons (vBin gAdd (vCal gLen (vCons (vBor 3) vNil)) (vC (.py (.int 1)))) vNil))) (mCons false (vCall S_law_pick (vCons (vVar 0) (vCons (vLst (vCons (vC (.py (.str "0"))) (vCons (vC (.py (.str " "))) (vCons (vC (.py (.str "-"))) (vCons (vC (.py (.str "1"))) (vCons (vC (.py (.str "a"))) (vCons (vC (.py (.str "\n"))) (vCons (vC (.py (.str "7"))) (vCons (vC (.py (.str "s"))) (vCons (vC (.py (.str "+"))) (vCons (vC (.py (.str "x"))) vNil))))))))))) vNil))) mNil)))
  (sSeq (sSet 6 (vBin gAdd (vBor 3) (vLst (vCons (vC (.py (.str ""))) (vCons (vC (.py (.str "00"))) (vCons (vC (.py (.str "05"))) (vCons (vC (.py (.str "-1"))) (vCons (vC (.py (.str "-0"))) (vCons (vC (.py (.str "1000000000"))) (vCons (vC (.py (.str "1000000001"))) (vCons (vC (.py (.str "39"))) (vCons (vC (.py (.str "40"))) (vCons (vBin gMulA (vC (.py (.str "1"))) (vC (.py (.int 21)))) (vCons (vBin gMulA (vC (.py (.str "1"))) (vC (.py (.int 300)))) (vCons (vC (.py (.str "none"))) vNil)))))))))))))))
  (sSeq (sSet 7 (vCall S_law_pick (vCons (vVar 0) (vCons (vVar 6) vNil))))
  (sSeq (sSetN 8 (vLst (vCons (vBin gAdd (vBin gAdd (vSl gSl (vBor 1) oNo (oAt (vBor 2))) (vBor 5)) (vSl gSl (vBor 1) (oAt (vBor 2)) oNo)) (vCons (vBin gAdd (vBin gAdd (vSl gSl (vBor 1) oNo (oAt (vBor 2))) (vBor 5)) (vSl gSl (vBor 1) (oAt (vBin gAdd (vBor 2) (vC (.py (.int 1))))) oNo)) (vCons (vBin gAdd (vSl gSl (vBor 1) oNo (oAt (vBor 2))) (vSl gSl (vBor 1) (oAt (vBin gAdd (vBor 2) (vC (.py (.int 1))))) oNo)) (vCons (vBin gAdd (vBor 1) (vC (.py (.str " ")))) vNil))))))
  (sSeq (sMut 8 gApp (vCons (vCall S_x_spaced (vCons (vBin gAdd (vBin gAdd (vSl gSl (vBor 3) oNo (oAt (vBor 4))) (vLst (vCons (vVar 7) vNil))) (vSl gSl (vBor 3) (oAt (vBor 4)) oNo)) vNil)) vNil))
  (sSeq (sMut 8 gApp (vCons (vCall S_x_spaced (vCons (vBin gAdd (vBin gAdd (vSl gSl (vBor 3) oNo (oAt (vBor 4))) (vLst (vCons (vVar 7) vNil))) (vSl gSl (vBor 3) (oAt (vBin gAdd (vBor 4) (vC (.py (.int 1))))) oNo)) vNil)) vNil))
  (sRet (vCall S_law_pick (vCons (vVar 0) (vCons (vBin gAdd (vBor 8) (vLst (vCons (vCall S_x_spaced (vCons (vBkA (vBor 3) (oAt (vUn gNeg (vC (.py (.int 1)))))) vNil)) (vCons (vBin gAdd (vBin gAdd (vBor 1) (vC (.py (.str " ")))) (vBor 1)) (vCons (vBin gAdd (vBor 1) (vBor 1)) vNil))))) vNil)))))))))))
def t_law_number : VS :=
  (sSeq (sSet 1 (vIf (vTst (vBin gEq (vSl gSl (vBor 0) oNo (oAt (vC (.py (.int 1))))) (vC (.py (.str "-"))))) (vSl gSl (vBor 0) (oAt (vC (.py (.int 1)))) oNo) (vVar 0)))
  (sSeq (sIf (wOr (vTst (vBin gEq (vBor 1) (vC (.py (.str ""))))) (wOr (vTst (vBin gGt (vCal gLen (vCons (vBor 1) vNil)) (vC (.py (.int 20))))) (vTst (vBin gNe (vLc [2] (iS (vBor 1)) (tgName 2) (vTst (vBin (gIn true) (vBor 2) (vC (.py (.str "0123456789"))))) (vVar 2)) (vLst vNil)))))
  (sRet (vC (.py .none)))
  sNext)
  (sRet (vIf (wAnd (vTst (vBin gEq (vBin gIx (vBor 1) (vC (.py (.int 0)))) (vC (.py (.str "0"))))) (vTst (vBin gNe (vBor 0) (vC (.py (.str "0")))))) (vC (.py .none)) (vCal gInt (vCons (vBor 0) vNil))))))
def t_law_row_of (S_law_number : SV) : VS :=
  (sSeq (sSetN 1 (vLst vNil))
  (sSeq (sFor (iEn (vCons (vMth isS gTSplit (vBor 0) (vCons (vC (.py (.str " "))) vNil)) vNil)) (tgTup 2 (tgCons (tgName 2) (tgCons (tgName 3) tgNil)))
  (sSeq (sSet 4 (vCall S_law_number (vCons (vVar 3) vNil)))
  (sSeq (sIf (wOr (vTst (vBin (gIsN false) (vBor 4) (vC (.py .none)))) (wOr (wNot (vTst (vChain gLe gLe (vC (.py (.int 0))) (vBor 4) (vBin gPow (vC (.py (.int 10))) (vC (.py (.int 9))))))) (vTst (vBin gEq (vBor 2) (vC (.py (.int 40)))))))
  (sRet (vLst (vCons (vVar 2) vNil)))
  sNext)
  (sMut 1 gApp (vCons (vVar 4) vNil)))))
  (sRet (vCal gTuple (vCons (vBor 1) vNil)))))
def t_law_persons_of (S_law_number : SV) : VS :=
  (sSeq (sSetN 2 (vLst vNil))
  (sSeq (sFor (iEn (vCons (vIf (vTst (vBin gEq (vBor 1) (vC (.py (.str "none"))))) (vLst vNil) (vMth isS gTSplit (vBor 1) (vCons (vC (.py (.str " "))) vNil))) vNil)) (tgTup 2 (tgCons (tgName 3) (tgCons (tgName 4) tgNil)))
  (sSeq (sSet 5 (vCall S_law_number (vCons (vVar 4) vNil)))
  (sSeq (sIf (wOr (vTst (vBin (gIsN false) (vBor 5) (vC (.py .none)))) (wOr (wNot (vTst (vChain gLe gLt (vC (.py (.int 0))) (vBor 5) (vBor 0)))) (vTst (vBin gEq (vBor 3) (vC (.py (.int 40)))))))
  (sRet (vLst (vCons (vVar 3) vNil)))
  sNext)
  (sMut 2 gApp (vCons (vVar 5) vNil)))))
  (sRet (vCal gTuple (vCons (vBor 2) vNil)))))
def t_law_word_of : VS :=
  (sSeq (sIf (vTst (vBin gEq (vBor 0) (vC (.py (.str "-")))))
  (sRet (vC (.py (.str ""))))
  sNext)
  (sSeq (sPar [1, 2] (mCons false (vC (.py (.str ""))) (mCons false (vC (.py (.int 0))) mNil)))
  (sSeq (sWhile (vTst (vBin gLt (vBor 2) (vCal gLen (vCons (vBor 0) vNil))))
  (sSeq (sSet 3 (vBin gAdd (vBor 2) (vC (.py (.int 1)))))
  (sSeq (sWhile (wAnd (vTst (vBin gLt (vBor 3) (vCal gLen (vCons (vBor 0) vNil)))) (vTst (vBin (gIn false) (vBin gIx (vBor 0) (vBor 3)) (vC (.py (.str "0123456789"))))))
  (sSet 3 (vBin gAdd (vBor 3) (vC (.py (.int 1))))))
  (sSeq (sSet 4 (vSl gSl (vBor 0) (oAt (vBin gAdd (vBor 2) (vC (.py (.int 1))))) (oAt (vBor 3))))
  (sSeq (sIf (wOr (vTst (vBin (gIn true) (vBin gIx (vBor 0) (vBor 2)) (vLst (vCons (vC (.py (.str "a"))) (vCons (vC (.py (.str "s"))) vNil))))) (wOr (vTst (vBin (gIn false) (vBor 4) (vLst (vCons (vC (.py (.str "0"))) (vCons (vC (.py (.str "1"))) vNil))))) (wOr (vTst (vBin gEq (vSl gSl (vBor 4) oNo (oAt (vC (.py (.int 1))))) (vC (.py (.str "0"))))) (vTst (vBin gGt (vCal gLen (vCons (vBor 4) vNil)) (vC (.py (.int 2))))))))
  (sRet (vLst (vCons (vC (.py (.int 0))) vNil)))
  sNext)
  (sSeq (sIf (vTst (vBin gEq (vSl gSl (vBor 1) (oAt (vUn gNeg (vC (.py (.int 1))))) oNo) (vBin gIx (vBor 0) (vBor 2))))
  (sRet (vLst (vCons (vC (.py (.int 0))) vNil)))
  sNext)
  (sPar [1, 2] (mCons false (vBin gAdd (vBor 1) (vBin gMulA (vBin gIx (vBor 0) (vBor 2)) (vCal gInt (vCons (vIf (vTst (vBin gEq (vBor 4) (vC (.py (.str ""))))) (vC (.py (.str "1"))) (vVar 4)) vNil)))) (mCons false (vVar 3) mNil)))))))))
  (sRet (vIf (vTst (vChain gLt gLe (vC (.py (.int 0))) (vCal gLen (vCons (vBor 1) vNil)) (vC (.py (.int 80))))) (vVar 1) (vLst (vCons (vC (.py (.int 0))) vNil)))))))
def t_law_found (S_parse_row : SV) (S_parse_persons : SV) (S_long_word : SV) : VS :=
  (sSeq (sSet 3 (vC (.py .none)))
  (sSeq (sTry 4 ["BadText"] "LineError"
  (sIf (vTst (vBin gEq (vBor 0) (vC (.py (.int 0)))))
  (sSet 3 (vCall S_parse_row (vCons (vVar 2) vNil)))
  (sSet 3 (vIf (vTst (vBin gEq (vBor 0) (vC (.py (.int 1))))) (vCall S_parse_persons (vCons (vVar 1) (vCons (vVar 2) vNil))) (vCall S_long_word (vCons (vVar 2) vNil)))))
  (fun a d er => (sSeq (sSet 5 (vAnd (vErrI a d er 4 ["BadText"] "ValueError") (vNot (vErrIT a d er 4 ["BadText"] ["BadBatch", "BadCount", "NoIndex", "Rejected"]))))
  (sSet 3 (vIf (wAnd (vTst (vBor 5)) (vTst (vErrI a d er 4 ["BadText"] "BadText"))) (vLst (vCons (vErrF a d er 4 ["BadText"] "index") vNil)) (vC (.py (.str "other"))))))))
  (sRet (vVar 3))))
def t_law (S_law_drawn : SV) (S_law_word : SV) (S_law_take : SV) (S_x_spaced : SV) (S_law_shortened : SV) (S_law_changed : SV) (S_law_pick : SV) (S_law_row_of : SV) (S_law_persons_of : SV) (S_law_word_of : SV) (S_law_found : SV) : VS :=
  (sSeq (sFor (iR1 (vCons (vC (.py (.int 3))) vNil)) (tgName 2)
  (sSeq (sSet 3 (vCall S_law_drawn (vCons (vVar 1) (vCons (vBin gIx (vLst (vCons (vC (.py (.int 40))) (vCons (vC (.py (.int 12))) (vCons (vC (.py (.int 3))) vNil)))) (vBor 2)) vNil))))
  (sSeq (sPar [4, 5] (mCons false (vCal gLen (vCons (vBor 3) vNil)) (mCons false (vCall S_law_word (vCons (vVar 1) (vCons (vCal gLen (vCons (vBor 3) vNil)) (vCons (vCall S_law_take (vCons (vVar 1) (vCons (vC (.py (.int 5))) vNil))) vNil)))) mNil)))
  (sSeq (sSet 6 (vCall S_x_spaced (vCons (vLc [11] (iR1 (vCons (vBin gAdd (vC (.py (.int 1))) (vCall S_law_take (vCons (vVar 1) (vCons (vC (.py (.int 40))) vNil)))) vNil)) (tgName 11) wYes (vCall S_law_take (vCons (vVar 1) (vCons (vVar 4) vNil)))) vNil)))
  (sSeq (sSet 7 (vLst (vCons (vCall S_x_spaced (vCons (vVar 3) vNil)) (vCons (vVar 6) (vCons (vCall S_law_shortened (vCons (vVar 5) vNil)) (vCons (vC (.py (.str "none"))) (vCons (vC (.py (.str ""))) (vCons (vC (.py (.str " "))) (vCons (vC (.py (.str "-"))) (vCons (vC (.py (.str "0"))) (vCons (vC (.py (.str "a"))) (vCons (vC (.py (.str "s"))) (vCons (vC (.py (.str "a1"))) (vCons (vC (.py (.str "a2"))) (vCons (vC (.py (.str "a02"))) vNil)))))))))))))))
  (sSeq (sSet 7 (vBin gAdd (vBor 7) (vLst (vCons (vC (.py (.str "a0"))) (vCons (vC (.py (.str "aa"))) (vCons (vC (.py (.str "a2a"))) (vCons (vC (.py (.str "a80"))) (vCons (vC (.py (.str "a81"))) (vCons (vC (.py (.str "a79s"))) (vCons (vC (.py (.str "a79s2"))) (vCons (vC (.py (.str "a99"))) (vCons (vC (.py (.str "a100"))) (vCons (vC (.py (.str "s40a40"))) (vCons (vC (.py (.str "s41a40"))) (vCons (vC (.py (.str "as-"))) vNil)))))))))))))))
  (sSeq (sSet 7 (vBin gAdd (vBor 7) (vLst (vCons (vC (.py (.str "--"))) (vCons (vC (.py (.str "a s"))) (vCons (vC (.py (.str "2a"))) (vCons (vCall S_x_spaced (vCons (vBin gMulA (vLst (vCons (vC (.py (.int 0))) vNil)) (vC (.py (.int 41)))) vNil)) (vCons (vCall S_x_spaced (vCons (vBin gMulA (vLst (vCons (vC (.py (.int 0))) vNil)) (vC (.py (.int 40)))) vNil)) (vCons (vC (.py (.str "none none"))) (vCons (vC (.py (.str "-1"))) vNil))))))))))
  (sSeq (sSet 7 (vBin gAdd (vBor 7) (vLst (vCons (vBin gMulA (vC (.py (.str "1"))) (vC (.py (.int 2500)))) (vCons (vBin gAdd (vC (.py (.str "a"))) (vBin gMulA (vC (.py (.str "1"))) (vC (.py (.int 300))))) (vCons (vC (.py (.str "A"))) (vCons (vC (.py (.str "a2\n"))) vNil)))))))
  (sSeq (sSet 8 (vLc [12] (iS (vBor 7)) (tgName 12) (vTst (vBin gLt (vCal gLen (vCons (vBor 12) vNil)) (vC (.py (.int 900))))) (vVar 12)))
  (sSeq (sFor (iS (vBin gAdd (vBor 7) (vLc [11] (iR1 (vCons (vC (.py (.int 18))) vNil)) (tgName 11) wYes (vCall S_law_changed (vCons (vVar 1) (vCons (vCall S_law_pick (vCons (vVar 1) (vCons (vVar 8) vNil))) vNil)))))) (tgName 9)
  (sSeq (sSet 10 (vLst (vCons (vCall S_law_row_of (vCons (vVar 9) vNil)) (vCons (vCall S_law_persons_of (vCons (vVar 4) (vCons (vVar 9) vNil))) (vCons (vCall S_law_word_of (vCons (vVar 9) vNil)) vNil)))))
  (sIf (wAnd (vTst (vBin gLe (vCal gLen (vCons (vBor 9) vNil)) (vC (.py (.int 3000))))) (vTst (vBin gNe (vCal gRepr (vCons (vLc [13] (iR1 (vCons (vC (.py (.int 3))) vNil)) (tgName 13) wYes (vCall S_law_found (vCons (vVar 13) (vCons (vVar 3) (vCons (vVar 9) vNil))))) vNil)) (vCal gRepr (vCons (vBor 10) vNil)))))
  (sRet (vC (.py (.bool false))))
  sNext)))
  (sFor (iS (vLst (vCons (vC (.py .none)) (vCons (vC (.py (.int 5))) (vCons (vC (.py (.bool true))) (vCons (vVar 3) (vCons (vLst (vCons (vC (.py (.str "a"))) vNil)) (vCons vD0 (vCons (vCall S_law_pick (vCons (vVar 1) (vCons (vLst (vCons (vTup vNil) (vCons (vLst vNil) (vCons (vC (.py (.int 0))) (vCons (vTup (vCons (vC (.py (.str "a"))) vNil)) (vCons (vD1 (.inr "a") (vC (.py (.int 1)))) vNil)))))) vNil))) vNil))))))))) (tgName 9)
  (sIf (vTst (vBin gNe (vCal gRepr (vCons (vLc [13] (iR1 (vCons (vC (.py (.int 3))) vNil)) (tgName 13) wYes (vCall S_law_found (vCons (vVar 13) (vCons (vVar 3) (vCons (vVar 9) vNil))))) vNil)) (vC (.py (.str "[[None], [None], [None]]")))))
  (sRet (vC (.py (.bool false))))
  sNext))))))))))))
  (sRet (vC (.py (.bool true)))))
end LawP
set_option Elab.async false
set_option linter.all false
set_option maxRecDepth 100000
set_option maxHeartbeats 4000000
/-! M14: texts of numbers, rows and words read back (plain; drawn from K71N and K71L) -/
namespace LawP
open PySem PySem.Spec PyProof.Rows L2 VL TL HT
/-! ### texts read back -/
theorem numL_digB (n : Nat) : (numL n).all digB = true := by
  rw [List.all_eq_true]
  intro c hc
  have := numL_digits n c hc
  unfold digB
  simp
  omega
theorem numL_head : ∀ (n : Nat), 0 < n → (numL n).head? ≠ some 48 := by
  intro n
  induction n using Nat.strongRecOn with
  | _ n ih =>
    intro h
    by_cases h1 : n < 10
    · rw [numL_lt h1]; simp; omega
    · rw [numL_step (by omega)]
      have := ih (n / 10) (by omega) (by omega)
      cases e : numL (n / 10) with
      | nil => exact absurd e (numL_ne _)
      | cons a l => rw [e] at this; simpa using this
theorem readI_num {n : Nat} (h : n < 10 ^ 10) : readI (numL n) = some (n : Int) := by
  have hl := numL_len (k := 10) (by omega) h
  have hne := numL_ne n
  have hd := numL_digB n
  have hv := numL_val n
  have h45 : (numL n).take 1 ≠ [45] := by
    cases e : numL n with
    | nil => simp
    | cons a l =>
      rw [e] at hd
      simp [digB] at hd
      simp
      omega
  have hb : barW (numL n) = numL n := by unfold barW; rw [if_neg h45]
  unfold readI
  rw [hb, if_neg h45, hv]
  have hl1 : 1 ≤ (numL n).length := by cases e : numL n with
    | nil => exact absurd e hne
    | cons a l => simp
  rw [if_pos ⟨hl1, by omega, hd⟩]
  by_cases h0 : 0 < n
  · rw [if_neg (fun q => numL_head n h0 q.1)]
  · have : n = 0 := by omega
    subst this
    rw [if_neg]
    intro q
    exact q.2 (numL_lt (by omega))
theorem words_spT {ns : List Nat} (h : ns ≠ []) : wordsOf (spT ns) = ns.map fun n => mkS (numL n) := by
  unfold wordsOf spT
  refine TL.split_join (s := 32) (S := []) (by simp [TL.tl]) (by simp [mkS]) (fun e => h (List.map_eq_nil_iff.mp e)) fun p hp => ?_
  obtain ⟨n, _, rfl⟩ := List.mem_map.mp hp
  exact numL_free (by omega)
theorem scan_nums (f : PyData → Bool) : ∀ (ns : List Nat) (k : Nat), (∀ n ∈ ns, n < 10 ^ 10 ∧ f (.int (n : Nat)) = true) → k + ns.length ≤ 40 → scanR f k (ns.map fun n => mkS (numL n)) = .inr (ns.map fun n : Nat => (n : Int))
  | [], k, _, _ => rfl
  | n :: ns, k, h, hk => by
    have h1 := h n List.mem_cons_self
    have ih := scan_nums f ns (k + 1) (fun m hm => h m (List.mem_cons_of_mem _ hm)) (by simp at hk; omega)
    have hk' : k < 40 := by simp at hk; omega
    rw [List.map_cons, scanR_cons, sl_mkS, readI_num h1.1]
    simp [h1.2, hk', ih]
theorem spT_none {ns : List Nat} (h : ns ≠ []) : spT ns ≠ mkS [110, 111, 110, 101] := fun e => by
  have e1 := spT_tl ns
  rw [e] at e1
  cases ns with
  | nil => exact h rfl
  | cons n ns =>
    have hd := numL_digB n
    cases en : numL n with
    | nil => exact numL_ne n en
    | cons a l =>
      rw [en] at hd
      have : a = 110 := by
        rw [List.map_cons, en] at e1
        cases ns with
        | nil => simp [TL.joinL, TL.tl] at e1; omega
        | cons m ns => simp [TL.joinL, TL.tl] at e1; omega
      subst this
      simp [digB] at hd
/-! ### the short form read back -/
theorem strG_piece {a : Nat} {ds rest : List Nat} {ps : List (List Nat)} (ha : a = 97 ∨ a = 115) (hd : ds.all digB = true) (hl : ds.length ≤ 2) : strG ps (a :: (ds ++ rest)) = strG (ps ++ [a :: ds]) rest := by
  have hn : ∀ c, digB c = true → ¬ (c = 97 ∨ c = 115) := fun c h => by unfold digB at h; simp at h; omega
  rw [strG_cons, if_pos ha]
  match ds, hl with
  | [], _ => rfl
  | [x], _ =>
    simp at hd
    rw [List.cons_append, List.nil_append, strG_cons, if_neg (hn x hd)]
    simp [hd]
  | [x, y], _ =>
    simp at hd
    rw [List.cons_append, List.cons_append, List.nil_append, strG_cons, if_neg (hn x hd.1)]
    simp [hd.1]
    rw [strG_cons, if_neg (hn y hd.2)]
    simp [hd.2]
theorem strG_short : ∀ (n : Nat) (w : List Nat) (ps : List (List Nat)), w.length ≤ 99 → (∀ c ∈ w, c = 97 ∨ c = 115) → strG ps (shortP n w).flatten = some (ps ++ shortP n w)
  | 0, w, ps, _, _ => by simp [shortP]; cases ps <;> rfl
  | n + 1, [], ps, _, _ => by simp [shortP]; cases ps <;> rfl
  | n + 1, c :: r, ps, hl, hc => by
    have hR := runL_le c (c :: r)
    have hdg : (tailW (runL c (c :: r))).all digB = true ∧ (tailW (runL c (c :: r))).length ≤ 2 := by
      unfold tailW
      split
      · exact ⟨numL_digB _, numL_len (k := 2) (by omega) (Nat.lt_of_le_of_lt (by omega : _ ≤ 99) (by decide))⟩
      · exact ⟨rfl, by simp⟩
    have ih := strG_short n ((c :: r).drop (runL c (c :: r))) (ps ++ [c :: tailW (runL c (c :: r))]) (by rw [List.length_drop]; omega) fun d hd => hc d (List.mem_of_mem_drop hd)
    show strG ps ((c :: tailW (runL c (c :: r))) :: shortP n ((c :: r).drop (runL c (c :: r)))).flatten = _
    rw [List.flatten_cons, List.cons_append, strG_piece (hc c List.mem_cons_self) hdg.1 hdg.2, ih, List.append_assoc]
    rfl
theorem run_split (c : Nat) : ∀ l, List.replicate (runL c l) c ++ l.drop (runL c l) = l
  | [] => rfl
  | d :: r => by
    unfold runL
    split
    · rename_i e
      subst e
      rw [List.replicate_succ, List.cons_append, List.drop_succ_cons, run_split d r]
    · rfl
theorem pcW_tail {a R : Nat} (h : 1 ≤ R) : pcW (a :: tailW R) = List.replicate R a := by
  unfold pcW pcN tailW
  by_cases h1 : 1 < R
  · rw [if_pos h1]
    show List.replicate (if numL R = [] then 1 else NumText.digitsVal (numL R)) a = _
    rw [if_neg (numL_ne R), numL_val]
  · rw [if_neg h1]
    have : R = 1 := by omega
    subst this
    rfl
theorem word_short : ∀ (n : Nat) (w : List Nat), w.length ≤ n → wordG (shortP n w) = w
  | 0, w, h => by
    have : w = [] := List.length_eq_zero_iff.mp (by omega)
    subst this; rfl
  | n + 1, [], _ => rfl
  | n + 1, c :: r, h => by
    have hR : 1 ≤ runL c (c :: r) := by simp [runL]
    have ih := word_short n ((c :: r).drop (runL c (c :: r))) (by rw [List.length_drop]; simp at h ⊢; omega)
    show (((c :: tailW (runL c (c :: r))) :: shortP n ((c :: r).drop (runL c (c :: r)))).map pcW).flatten = _
    rw [List.map_cons, List.flatten_cons, pcW_tail hR]
    unfold wordG at ih
    rw [ih, run_split]
theorem long_short {w : List Nat} (h : w.length ≤ 80) (hc : ∀ c ∈ w, c = 97 ∨ c = 115) : longW (shortL w) = some w := by
  by_cases h0 : w = []
  · subst h0; decide +kernel
  · have es : shortL w = (shortP w.length w).flatten := by unfold shortL; rw [if_neg h0]
    have hn : shortL w ≠ [45] := fun e => by
      rw [es] at e
      cases w with
      | nil => exact h0 rfl
      | cons c r =>
        have := hc c List.mem_cons_self
        have e2 : (shortP (c :: r).length (c :: r)).flatten = c :: (tailW (runL c (c :: r)) ++ (shortP r.length ((c :: r).drop (runL c (c :: r)))).flatten) := rfl
        rw [e2] at e
        simp at e
        omega
    unfold longW
    rw [if_neg hn]
    have e := strG_short w.length w [] (by omega) hc
    rw [es, e]
    simp only [List.nil_append]
    rw [word_short _ w (Nat.le_refl _), if_neg]
    intro q
    rcases q with q | q
    · omega
    · exact q es
theorem tI_tN {gs : List Int} (h : ∀ g ∈ gs, 0 ≤ g) : ∃ ns : List Nat, gs = ns.map (fun n : Nat => (n : Int)) ∧ tI gs = tN ns := by
  induction gs with
  | nil => exact ⟨[], rfl, rfl⟩
  | cons g gs ih =>
    obtain ⟨ns, e1, e2⟩ := ih fun x hx => h x (List.mem_cons_of_mem _ hx)
    have := h g List.mem_cons_self
    refine ⟨g.toNat :: ns, by rw [e1, List.map_cons, Int.toNat_of_nonneg this], ?_⟩
    rw [e1]
    simp [tI, tN, pN, List.map_map]
    omega
theorem joinL_mem {S : List Nat} : ∀ {l : List (List Nat)} {c : Nat}, c ∈ TL.joinL S l → c ∈ S ∨ ∃ p ∈ l, c ∈ p
  | [], c, h => by simp [TL.joinL] at h
  | [p], c, h => .inr ⟨p, List.mem_singleton.mpr rfl, h⟩
  | p :: q :: r, c, h => by
    have h' : c ∈ p ++ (S ++ TL.joinL S (q :: r)) := h
    rcases List.mem_append.mp h' with h | h
    · exact .inr ⟨p, List.mem_cons_self, h⟩
    rcases List.mem_append.mp h with h | h
    · exact .inl h
    · rcases joinL_mem h with h | ⟨p2, h1, h2⟩
      · exact .inl h
      · exact .inr ⟨p2, List.mem_cons_of_mem _ h1, h2⟩
theorem spT_mk (ns : List Nat) : ∃ t, spT ns = mkS t ∧ ∀ c ∈ t, c < 128 := by
  refine ⟨TL.joinL [32] (ns.map numL), TL.ext_tl (by rw [spT_tl]), fun c hc => ?_⟩
  rcases joinL_mem hc with h | ⟨p, h1, h2⟩
  · rw [List.mem_singleton] at h; omega
  · obtain ⟨n, _, rfl⟩ := List.mem_map.mp h1
    have := numL_digits n c h2
    omega
theorem shortP_ok : ∀ (n : Nat) (w : List Nat), w.length ≤ 99 → (∀ c ∈ w, c = 97 ∨ c = 115) → (shortP n w).flatten.length ≤ 3 * n ∧ ∀ c ∈ (shortP n w).flatten, c < 128
  | 0, w, _, _ => by simp [shortP]
  | n + 1, [], _, _ => by simp [shortP]
  | n + 1, c :: r, hl, hc => by
    have hR := runL_le c (c :: r)
    have hdg : (tailW (runL c (c :: r))).length ≤ 2 ∧ ∀ d ∈ tailW (runL c (c :: r)), d < 128 := by
      unfold tailW
      split
      · exact ⟨numL_len (k := 2) (by omega) (Nat.lt_of_le_of_lt (by omega : _ ≤ 99) (by decide)), fun d hd => by have := numL_digits _ d hd; omega⟩
      · exact ⟨by simp, by simp⟩
    have ih := shortP_ok n ((c :: r).drop (runL c (c :: r))) (by rw [List.length_drop]; omega) fun d hd => hc d (List.mem_of_mem_drop hd)
    show ((c :: tailW (runL c (c :: r))) :: shortP n ((c :: r).drop (runL c (c :: r)))).flatten.length ≤ _ ∧ ∀ d ∈ ((c :: tailW (runL c (c :: r))) :: shortP n ((c :: r).drop (runL c (c :: r)))).flatten, d < 128
    rw [List.flatten_cons]
    generalize (shortP n ((c :: r).drop (runL c (c :: r)))).flatten = u at ih
    generalize tailW (runL c (c :: r)) = t at hdg
    refine ⟨by simp; omega, fun d hd => ?_⟩
    rcases List.mem_append.mp hd with h | h
    · rcases List.mem_cons.mp h with rfl | h
      · have := hc d List.mem_cons_self; omega
      · exact hdg.2 d h
    · exact ih.2 d h
theorem shortL_ok {w : List Nat} (hl : w.length ≤ 80) (hc : ∀ c ∈ w, c = 97 ∨ c = 115) : (shortL w).length ≤ 300 ∧ ∀ c ∈ shortL w, c < 128 := by
  unfold shortL
  split
  · simp
  · have := shortP_ok w.length w (by omega) hc
    exact ⟨by omega, this.2⟩
end LawP
set_option Elab.async false
set_option linter.all false
set_option maxRecDepth 100000
set_option maxHeartbeats 4000000
namespace LawP
open PySem PySem.Spec PyProof.Rows L2 VL TL HT
theorem runL_eq {c m : Nat} {l : List Nat} (h : ∀ j, j < m → l[j]? = some c) (e : l[m]? ≠ some c) : runL c l = m := by
  rcases Nat.lt_trichotomy (runL c l) m with h1 | h1 | h1
  · exact absurd (h _ h1) (runL_end c l)
  · exact h1
  · exact absurd (runL_at c l m h1) e
@[simp] def S_law_shortened : SV := fun ds Q _ => ∃ w : List Nat, ds = [.py (.str (mkS w))] ∧ w.length ≤ 1000 ∧ Q (.py (.str (mkS (shortL w))))
theorem l_law_shortened : ∀ ds Q E, S_law_shortened ds Q E → t_law_shortened (envOf 4 ds) (fin Q E) := by
  rintro ds Q E ⟨w, rfl, hw, q⟩
  simp [t_law_shortened, lit_empty, lit_dash, -forGo]
  refine ⟨by omega, by omega, ?_⟩
  rw [rangeP_eq]
  refine for_enc (encR 0) (fun k ρ => ∃ (f : List Nat) (c n : Nat) (x : VL.Slot), ρ = [.shr (.py (.str (mkS w))), .shr (.py (.str (mkS f))), .shr (.py (.int (c : Nat))), x] ∧ c ≤ k ∧ k ≤ w.length ∧ (k = w.length → c = 0) ∧ f.length ≤ 20 * k ∧ w.length ≤ n + (k - c) ∧
    (∀ j, k - c ≤ j → j < k → w[j]? = w[k]?) ∧ f ++ (shortP n (w.drop (k - c))).flatten = (shortP w.length w).flatten) ⟨[], 0, w.length, .un, rfl, by omega, by omega, by omega, by simp, by omega, by omega, rfl⟩ (fun k i ρ hk iv nx ct hn => ?_) (fun ρ iv => ?_)
  · obtain ⟨rfl, hk⟩ := range_get hk
    obtain ⟨f, c, n, x, rfl, i1, i2, i3, i4, i5, i6, i7⟩ := iv
    simp [encR]
    refine ⟨by omega, ?_⟩
    obtain ⟨a, ha⟩ : ∃ a, w[i]? = some a := ⟨_, List.getElem?_eq_getElem hk⟩
    have ai : atI w (i : Int) = some a := atI_nat ha
    have hrun : ∀ j, j < c + 1 → (w.drop (i - c))[j]? = some a := fun j hj => by
      rw [List.getElem?_drop]
      by_cases h : j = c
      · rw [h, show i - c + c = i from by omega]; exact ha
      · rw [i6 (i - c + j) (by omega) (by omega)]; exact ha
    have cc : ((c : Int) + 1) = ((c + 1 : Nat) : Int) := by omega
    have hcd : c + 1 < 10 ^ 10 := Nat.lt_of_le_of_lt (by omega : c + 1 ≤ 100000) (by decide)
    have hcl := numL_len (k := 10) (by omega) hcd
    have fin1 : w[i + 1]? ≠ some a → ∀ f2, f2 = f ++ (a :: tailW (c + 1)) → nx [.shr (.py (.str (mkS w))), .shr (.py (.str (mkS f2))), .shr (.py (.int 0)), .shr (.py (.int i))] := fun hne f2 e2 => by
      have hR : runL a (w.drop (i - c)) = c + 1 := runL_eq hrun (by rw [List.getElem?_drop, show i - c + (c + 1) = i + 1 from by omega]; exact hne)
      obtain ⟨n', rfl⟩ : ∃ n', n = n' + 1 := ⟨n - 1, by omega⟩
      have sp : shortP (n' + 1) (w.drop (i - c)) = (a :: tailW (c + 1)) :: shortP n' (w.drop (i + 1)) := by
        have e3 : i + 1 = (i - c) + (c + 1) := by omega
        rw [e3, ← List.drop_drop]
        have h0 := hrun 0 (by omega)
        rw [← hR]
        generalize w.drop (i - c) = l at h0
        cases l with
        | nil => simp at h0
        | cons d l =>
          have : d = a := by simpa using h0
          subst this
          rfl
      rw [sp, List.flatten_cons, ← List.append_assoc, ← e2] at i7
      refine (hn _ ⟨f2, 0, n', _, rfl, by omega, by omega, by omega, ?_, by omega, by omega, i7⟩).1
      subst e2
      unfold tailW
      split <;> simp <;> omega
    have fin2 : w[i + 1]? ≠ some a → f.length ≤ 16777215 ∧ (if 1 < (c : Int) + 1 then ((c : Int) + 1).natAbs.log2 < 1920 ∧ f.length + 1 + (Str.ofString ((c : Int) + 1).repr).length ≤ 16777216 ∧
        nx [.shr (.py (.str (mkS w))), .shr (.py (.str (mkS (f ++ [a]) ++ Str.ofString ((c : Int) + 1).repr))), .shr (.py (.int 0)), .shr (.py (.int i))]
        else f.length ≤ 16777215 ∧ nx [.shr (.py (.str (mkS w))), .shr (.py (.str (mkS (f ++ [a])))), .shr (.py (.int 0)), .shr (.py (.int i))]) := fun hne => by
      refine ⟨by omega, ?_⟩
      rw [cc, num_repr]
      by_cases h1 : 1 < c + 1
      · rw [if_pos (by omega)]
        refine ⟨log_nat hcd, by simp; omega, ?_⟩
        have e : mkS (f ++ [a]) ++ mkS (numL (c + 1)) = mkS (f ++ (a :: numL (c + 1))) := by simp
        rw [e]
        exact fin1 hne _ (by unfold tailW; rw [if_pos h1])
      · rw [if_neg (by omega)]
        exact ⟨by omega, fin1 hne _ (by unfold tailW; rw [if_neg h1])⟩
    by_cases hl : i + 1 = w.length
    · rw [if_pos (by omega)]
      exact ⟨by omega, a, ai, fin2 (by rw [List.getElem?_eq_none (by omega)]; simp)⟩
    · rw [if_neg (by omega)]
      have hi : i + 1 < w.length := by omega
      obtain ⟨b, hb⟩ : ∃ b, w[i + 1]? = some b := ⟨_, List.getElem?_eq_getElem hi⟩
      have ab : atI w ((i : Int) + 1) = some b := by have := atI_nat hb; simpa using this
      refine ⟨by omega, b, ab, by omega, a, ai, ?_⟩
      by_cases hab : b = a
      · rw [if_pos hab]
        subst hab
        rw [cc]
        refine (hn _ ⟨f, c + 1, n, _, rfl, by omega, by omega, by omega, by omega, by omega, fun j j1 j2 => ?_, by rw [show i + 1 - (c + 1) = i - c from by omega]; exact i7⟩).1
        by_cases h : j = i
        · rw [h, ha, hb]
        · rw [i6 j (by omega) (by omega), ha, hb]
      · rw [if_neg hab]
        exact ⟨by omega, a, ai, fin2 (by rw [hb]; simpa using hab)⟩
  · obtain ⟨f, c, n, x, rfl, i1, i2, i3, i4, i5, i6, i7⟩ := iv
    have c0 := i3 (by simp)
    subst c0
    have e0 : w.drop ((List.range w.length).length - 0) = [] := List.drop_eq_nil_of_le (by simp)
    have e1 : shortP n [] = [] := by cases n <;> rfl
    rw [e0, e1] at i7
    simp at i7
    simp
    unfold shortL at q
    by_cases hw0 : w = []
    · rw [if_pos hw0] at q ⊢
      exact q
    · rw [if_neg hw0] at q ⊢
      rw [i7]
      exact q
end LawP
set_option Elab.async false
set_option linter.all false
set_option maxRecDepth 100000
set_option maxHeartbeats 4000000
namespace LawP
open PySem PySem.Spec PyProof.Rows L2 VL TL HT
/-! ### the law's own reading of a short form -/
def valW (ds : List Nat) : Nat := if ds = [] then 1 else NumText.digitsVal ds
def badSh (c : Nat) (ds : List Nat) : Prop := ¬ (c = 97 ∨ c = 115) ∨ (ds = [48] ∨ ds = [49]) ∨ ds.take 1 = [48] ∨ 2 < ds.length
instance (c : Nat) (ds : List Nat) : Decidable (badSh c ds) := by unfold badSh; infer_instance
def lawP : Nat → List Nat → List Nat → Option (List Nat)
  | 0, _, _ => none
  | _ + 1, [], acc => if 0 < acc.length ∧ acc.length ≤ 80 then some acc else none
  | n + 1, c :: r, acc => if badSh c (r.takeWhile digB) then none else if acc.getLast? = some c then none else lawP n (r.dropWhile digB) (acc ++ List.replicate (valW (r.takeWhile digB)) c)
def lawW (w : List Nat) : Option (List Nat) := if w = [45] then some [] else lawP (w.length + 1) w []
theorem two_digits : ∀ i : Fin 10, ∀ j : Fin 10, i ≠ 0 → tailW (NumText.digitsVal [48 + i.val, 48 + j.val]) = [48 + i.val, 48 + j.val] ∧ NumText.digitsVal [48 + i.val, 48 + j.val] ≤ 99 ∧ 1 < NumText.digitsVal [48 + i.val, 48 + j.val] := by decide +kernel
theorem one_digit : ∀ i : Fin 10, i ≠ 0 → i ≠ 1 → tailW (NumText.digitsVal [48 + i.val]) = [48 + i.val] ∧ NumText.digitsVal [48 + i.val] ≤ 99 ∧ 1 < NumText.digitsVal [48 + i.val] := by decide +kernel
theorem digB_fin {a : Nat} (h : digB a = true) : ∃ i : Fin 10, a = 48 + i.val := by
  unfold digB at h
  simp at h
  exact ⟨⟨a - 48, by omega⟩, by simp; omega⟩
theorem good_ds {c : Nat} {ds : List Nat} (hd : ds.all digB = true) (h : ¬ badSh c ds) : (c = 97 ∨ c = 115) ∧ tailW (valW ds) = ds ∧ 1 ≤ valW ds ∧ valW ds ≤ 99 := by
  unfold badSh at h
  have hc : c = 97 ∨ c = 115 := Classical.byContradiction fun n => h (.inl n)
  refine ⟨hc, ?_⟩
  match ds, hd, h with
  | [], _, _ => exact ⟨rfl, by decide, by decide⟩
  | [a], hd, h =>
    simp at hd
    obtain ⟨i, rfl⟩ := digB_fin hd
    have := one_digit i (fun e => h (.inr (.inl (.inl (by rw [e]; rfl))))) (fun e => h (.inr (.inl (.inr (by rw [e]; rfl)))))
    unfold valW
    rw [if_neg (by simp)]
    exact ⟨this.1, by omega, by omega⟩
  | [a, b], hd, h =>
    simp at hd
    obtain ⟨i, rfl⟩ := digB_fin hd.1
    obtain ⟨j, rfl⟩ := digB_fin hd.2
    have := two_digits i j (fun e => h (.inr (.inr (.inl (by rw [e]; rfl)))))
    unfold valW
    rw [if_neg (by simp)]
    exact ⟨this.1, by omega, by omega⟩
  | a :: b :: c :: r, _, h => exact absurd (.inr (.inr (.inr (by simp)))) h
theorem takeW_all : ∀ l : List Nat, (l.takeWhile digB).all digB = true
  | [] => rfl
  | c :: l => by
    rw [List.takeWhile_cons]
    split
    · rename_i h; rw [List.all_cons, h, takeW_all l]; rfl
    · rfl
theorem shortP_hd : ∀ (n : Nat) (w : List Nat), (∀ c ∈ w, c = 97 ∨ c = 115) → (shortP n w).flatten = [] ∨ ∃ c l, (shortP n w).flatten = c :: l ∧ digB c = false
  | 0, w, _ => .inl rfl
  | n + 1, [], _ => .inl rfl
  | n + 1, c :: r, h => .inr ⟨c, tailW (runL c (c :: r)) ++ (shortP n ((c :: r).drop (runL c (c :: r)))).flatten, rfl, by
    rcases h c List.mem_cons_self with e | e <;> rw [e] <;> rfl⟩
theorem takeW_app {l F : List Nat} (hl : l.all digB = true) (hF : F = [] ∨ ∃ c k, F = c :: k ∧ digB c = false) : (l ++ F).takeWhile digB = l ∧ (l ++ F).dropWhile digB = F := by
  have hl' := List.all_eq_true.mp hl
  rw [List.takeWhile_append_of_pos hl', List.dropWhile_append_of_pos hl']
  rcases hF with rfl | ⟨c, k, rfl, h⟩
  · simp
  · rw [List.takeWhile_cons, List.dropWhile_cons, h]
    simp
theorem tail_ok {R : Nat} (h1 : 1 ≤ R) (h2 : R ≤ 99) : (tailW R).all digB = true ∧ valW (tailW R) = R ∧ ∀ c, c = 97 ∨ c = 115 → ¬ badSh c (tailW R) := by
  unfold tailW
  split
  · have hv := numL_val R
    refine ⟨numL_digB _, ?_, fun c hc hb => ?_⟩
    · unfold valW
      rw [if_neg (numL_ne R), numL_val]
    · unfold badSh at hb
      rcases hb with hb | (hb | hb) | hb | hb
      · exact hb hc
      · rw [hb] at hv
        have : NumText.digitsVal [48] = 0 := by decide
        omega
      · rw [hb] at hv
        have : NumText.digitsVal [49] = 1 := by decide
        omega
      · have := numL_head R (by omega)
        cases e : numL R with
        | nil => exact numL_ne R e
        | cons a l => rw [e] at hb this; simp at hb this; exact this hb
      · have := numL_len (k := 2) (n := R) (by omega) (Nat.lt_of_le_of_lt h2 (by decide))
        omega
  · refine ⟨rfl, by show (1 : Nat) = R; omega, fun c hc hb => ?_⟩
    unfold badSh at hb
    simp at hb
    omega
theorem lawP_short : ∀ (n : Nat) (u acc : List Nat) (f : Nat), u.length ≤ n → u.length ≤ 99 → (∀ c ∈ u, c = 97 ∨ c = 115) → (shortP n u).flatten.length < f → (u ≠ [] → acc.getLast? ≠ u.head?) →
    lawP f (shortP n u).flatten acc = if 0 < (acc ++ u).length ∧ (acc ++ u).length ≤ 80 then some (acc ++ u) else none
  | _, _, _, 0, _, _, _, h, _ => by omega
  | 0, u, acc, f + 1, h0, _, _, _, _ => by
    have : u = [] := List.length_eq_zero_iff.mp (by omega)
    subst this
    simp [shortP, lawP]
  | n + 1, [], acc, f + 1, h0, _, _, _, _ => by simp [shortP, lawP]
  | n + 1, c :: r, acc, f + 1, h0, h99, hc, hf, hl => by
    have hR := runL_le c (c :: r)
    have hR1 : 1 ≤ runL c (c :: r) := by simp [runL]
    have hE := runL_end c (c :: r)
    have hs := run_split c (c :: r)
    have hc2 : ∀ d ∈ (c :: r).drop (runL c (c :: r)), d = 97 ∨ d = 115 := fun d hd => hc d (List.mem_of_mem_drop hd)
    have ef : (shortP (n + 1) (c :: r)).flatten = c :: (tailW (runL c (c :: r)) ++ (shortP n ((c :: r).drop (runL c (c :: r)))).flatten) := rfl
    rw [ef] at hf ⊢
    have hla : acc.getLast? ≠ some c := by simpa using hl (by simp)
    generalize runL c (c :: r) = R at hR hR1 hE hs hc2 hf ⊢
    obtain ⟨t1, t2, t3⟩ := tail_ok hR1 (by omega)
    obtain ⟨e1, e2⟩ := takeW_app t1 (shortP_hd n _ hc2)
    have hdl : ((c :: r).drop R).length ≤ n := by rw [List.length_drop]; simp at h0 ⊢; omega
    have ih := lawP_short n ((c :: r).drop R) (acc ++ List.replicate R c) f hdl (by rw [List.length_drop]; omega) hc2 (by rw [List.length_cons, List.length_append] at hf; omega) (fun hn => by
      have e3 : (acc ++ List.replicate R c).getLast? = some c := by
        obtain ⟨m, rfl⟩ : ∃ m, R = m + 1 := ⟨R - 1, by omega⟩
        rw [List.replicate_succ', ← List.append_assoc, List.getLast?_append]
        simp
      rw [e3, List.head?_drop]
      exact fun e => hE e.symm)
    show (if badSh c _ then none else if acc.getLast? = some c then none else lawP f _ (acc ++ List.replicate (valW _) c)) = _
    rw [e1, e2, if_neg (t3 c (hc c List.mem_cons_self)), if_neg hla, t2, ih, List.append_assoc, hs]
theorem runL_rep (c : Nat) : ∀ (k : Nat) (u : List Nat), u.head? ≠ some c → runL c (List.replicate k c ++ u) = k
  | 0, [], _ => rfl
  | 0, d :: u, h => by
    have : d ≠ c := by simpa using h
    simp [runL, this]
  | k + 1, u, h => by
    rw [List.replicate_succ, List.cons_append]
    unfold runL
    rw [if_pos rfl, runL_rep c k u h]
theorem lawP_inv : ∀ (f : Nat) (w acc v : List Nat), lawP f w acc = some v → ∃ u, v = acc ++ u ∧ (∀ c ∈ u, c = 97 ∨ c = 115) ∧ v.length ≤ 80 ∧ 0 < v.length ∧ (u ≠ [] → acc.getLast? ≠ u.head?) ∧ ∀ n, u.length ≤ n → (shortP n u).flatten = w
  | 0, w, acc, v, h => by cases h
  | f + 1, [], acc, v, h => by
    have h : (if 0 < acc.length ∧ acc.length ≤ 80 then some acc else none) = some v := h
    split at h
    · cases h
      exact ⟨[], by simp, by simp, by omega, by omega, by simp, fun n _ => by cases n <;> rfl⟩
    · cases h
  | f + 1, c :: r, acc, v, h => by
    have h : (if badSh c (r.takeWhile digB) then none else if acc.getLast? = some c then none else lawP f (r.dropWhile digB) (acc ++ List.replicate (valW (r.takeWhile digB)) c)) = some v := h
    split at h
    · cases h
    rename_i hb
    split at h
    · cases h
    rename_i hla
    obtain ⟨u, e, hc, v1, v2, hh, hs⟩ := lawP_inv f _ _ _ h
    obtain ⟨g1, g2, g3, g4⟩ := good_ds (takeW_all r) hb
    have ed := List.takeWhile_append_dropWhile (p := digB) (l := r)
    generalize r.takeWhile digB = ds at *
    generalize r.dropWhile digB = rest at *
    generalize valW ds = k at *
    obtain ⟨m, rfl⟩ : ∃ m, k = m + 1 := ⟨k - 1, by omega⟩
    have hu : u.head? ≠ some c := by
      cases u with
      | nil => simp
      | cons d u =>
        have := hh (by simp)
        have e3 : (acc ++ List.replicate (m + 1) c).getLast? = some c := by
          rw [List.replicate_succ', ← List.append_assoc, List.getLast?_append]
          simp
        rw [e3] at this
        exact fun e => this e.symm
    refine ⟨List.replicate (m + 1) c ++ u, by rw [e, List.append_assoc], fun d hd => ?_, v1, v2, fun _ => ?_, fun n hn => ?_⟩
    · rcases List.mem_append.mp hd with h | h
      · rw [(List.mem_replicate.mp h).2]; exact g1
      · exact hc d h
    · rw [List.replicate_succ, List.cons_append]
      exact hla
    · obtain ⟨n', rfl⟩ : ∃ n', n = n' + 1 := ⟨n - 1, by simp at hn; omega⟩
      have hr := runL_rep c (m + 1) u hu
      rw [List.replicate_succ, List.cons_append] at hr ⊢
      show ((c :: tailW (runL c (c :: (List.replicate m c ++ u)))) :: shortP n' ((c :: (List.replicate m c ++ u)).drop (runL c (c :: (List.replicate m c ++ u))))).flatten = _
      rw [hr, g2, List.flatten_cons, List.drop_succ_cons]
      have e4 : (List.replicate m c ++ u).drop m = u := by simp
      rw [e4, hs n' (by simp at hn; omega), List.cons_append, ed]
theorem strG_let : ∀ (w : List Nat) (ps qs : List (List Nat)), (∀ p ∈ ps, ∃ c l, p = c :: l ∧ (c = 97 ∨ c = 115)) → strG ps w = some qs → ∀ p ∈ qs, ∃ c l, p = c :: l ∧ (c = 97 ∨ c = 115)
  | [], ps, qs, h, e => by
    have e' : strG ps [] = some ps := by cases ps <;> rfl
    rw [e'] at e
    cases e
    exact h
  | c :: r, ps, qs, h, e => by
    rw [strG_cons] at e
    split at e
    · rename_i hc
      refine strG_let r _ _ (fun p hp => ?_) e
      rcases List.mem_append.mp hp with h1 | h1
      · exact h p h1
      · rw [List.mem_singleton] at h1
        exact ⟨c, [], h1, hc⟩
    · split at e
      · cases e
      · rename_i hn
        have hne : ps ≠ [] := fun e => hn (.inr (.inl e))
        obtain ⟨qs0, p0, rfl⟩ : ∃ qs p, ps = qs ++ [p] := ⟨ps.dropLast, ps.getLast hne, (List.dropLast_concat_getLast hne).symm⟩
        rw [List.dropLast_concat] at e
        have gl : (qs0 ++ [p0]).getLastD [] = p0 := by simp
        rw [gl] at e
        refine strG_let r _ _ (fun p hp => ?_) e
        rcases List.mem_append.mp hp with h1 | h1
        · exact h p (List.mem_append_left _ h1)
        · rw [List.mem_singleton] at h1
          obtain ⟨d, l, e1, e2⟩ := h p0 (List.mem_append_right _ (List.mem_singleton.mpr rfl))
          exact ⟨d, l ++ [c], by rw [h1, e1]; rfl, e2⟩
theorem long_inv {w u : List Nat} (h : longW w = some u) : (∀ c ∈ u, c = 97 ∨ c = 115) ∧ u.length ≤ 80 ∧ shortL u = w := by
  have hx : ∃ ps, (if w = [45] then some [] else strG [] w) = some ps := by
    unfold longW at h
    cases e : (if w = [45] then some [] else strG [] w) with
    | none => rw [e] at h; cases h
    | some ps => exact ⟨ps, rfl⟩
  obtain ⟨ps, e⟩ := hx
  unfold longW at h
  rw [e] at h
  have h : (if 80 < (wordG ps).length ∨ shortL (wordG ps) ≠ w then none else some (wordG ps)) = some u := h
  split at h
  · cases h
  rename_i hn
  cases h
  have hl : ∀ p ∈ ps, ∃ c l, p = c :: l ∧ (c = 97 ∨ c = 115) := by
    split at e
    · cases e; simp
    · exact strG_let w [] ps (by simp) e
  refine ⟨fun c hc => ?_, by omega, Classical.byContradiction fun n => hn (.inr n)⟩
  obtain ⟨l, h1, h2⟩ := List.mem_flatten.mp hc
  obtain ⟨p, h3, rfl⟩ := List.mem_map.mp h1
  obtain ⟨d, l2, rfl, h4⟩ := hl p h3
  have := (List.mem_replicate.mp h2).2
  rw [this]
  exact h4
theorem law_long (w : List Nat) : lawW w = longW w := by
  unfold lawW
  by_cases h45 : w = [45]
  · rw [if_pos h45, h45]
    decide +kernel
  rw [if_neg h45]
  cases e : longW w with
  | some u =>
    obtain ⟨u1, u2, u3⟩ := long_inv e
    have un : u ≠ [] := fun z => by
      rw [z] at u3
      exact h45 (u3.symm.trans rfl)
    have es : (shortP u.length u).flatten = w := by
      unfold shortL at u3
      rw [if_neg un] at u3
      exact u3
    have := lawP_short u.length u [] (w.length + 1) (Nat.le_refl _) (by omega) u1 (by rw [es]; omega) (fun _ => by
      cases u with
      | nil => exact absurd rfl un
      | cons c u => simp)
    rw [es, List.nil_append] at this
    rw [this, if_pos ⟨List.length_pos_iff.mpr un, u2⟩]
  | none =>
    cases e2 : lawP (w.length + 1) w [] with
    | none => rfl
    | some v =>
      obtain ⟨u, ev, u1, u2, u3, _, u5⟩ := lawP_inv _ _ _ _ e2
      rw [List.nil_append] at ev
      subst ev
      have un : v ≠ [] := List.length_pos_iff.mp u3
      have es : shortL v = w := by
        unfold shortL
        rw [if_neg un, u5 _ (Nat.le_refl _)]
      have := long_short u2 u1
      rw [es, e] at this
      cases this
end LawP
set_option Elab.async false
set_option linter.all false
set_option maxRecDepth 100000
set_option maxHeartbeats 4000000
namespace LawP
open PySem PySem.Spec PyProof.Rows L2 VL TL HT
@[simp] def S_law_number : SV := fun ds Q _ => ∃ w : List Nat, ds = [.py (.str (mkS w))] ∧ w.length ≤ 100000 ∧ Q (.py (oI (readI w)))
def numB : VS :=
  (sSeq (sIf (wOr (vTst (vBin gEq (vBor 1) (vC (.py (.str ""))))) (wOr (vTst (vBin gGt (vCal gLen (vCons (vBor 1) vNil)) (vC (.py (.int 20))))) (vTst (vBin gNe (vLc [2] (iS (vBor 1)) (tgName 2) (vTst (vBin (gIn true) (vBor 2) (vC (.py (.str "0123456789"))))) (vVar 2)) (vLst vNil)))))
  (sRet (vC (.py .none)))
  sNext)
  (sRet (vIf (wAnd (vTst (vBin gEq (vBin gIx (vBor 1) (vC (.py (.int 0)))) (vC (.py (.str "0"))))) (vTst (vBin gNe (vBor 0) (vC (.py (.str "0")))))) (vC (.py .none)) (vCal gInt (vCons (vBor 0) vNil)))))
theorem all_of {d : List Nat} (h : d.all digB = true) : NumText.AllDigits d := fun c hc => by
  have := List.all_eq_true.mp h c hc
  unfold digB at this
  simp at this
  omega
theorem numB_ok {w d : List Nat} {Q : D → Prop} {E : Er → Prop} (hd : d = barW w) (hw : w.length ≤ 100000) (q : Q (.py (oI (readI w)))) : numB [.shr (.py (.str (mkS w))), .shr (.py (.str (mkS d))), .un] (fin Q E) := by
  have hdl : d.length ≤ w.length := by
    rw [hd]; unfold barW; split
    · rw [List.length_drop]; omega
    · exact Nat.le_refl _
  simp only [numB, lit_zero, lit_digits, lit_empty]
  simp [-lcGo]
  by_cases h0 : d = []
  · rw [if_pos h0]
    have : readI w = none := by unfold readI; rw [← hd, h0]; simp
    rw [this] at q
    exact q
  rw [if_neg h0]
  refine ⟨by omega, ?_⟩
  by_cases h20 : 20 < d.length
  · rw [if_pos (by omega)]
    have : readI w = none := by unfold readI; rw [← hd, if_neg (by omega)]
    rw [this] at q
    exact q
  rw [if_neg (by omega)]
  rw [signsD_mkS]
  refine lc_encF encC (fun c => !digB c) encC (fun i c hc k k1 k2 => ?_) (by omega) ?_
  · have md := mem_digits c
    simp [lcStep]
    by_cases hg : digB c = true
    · rw [hg] at md k2
      simp at md
      rw [if_neg (by omega)]
      exact k2 rfl
    · have hg : digB c = false := by simpa using hg
      rw [hg] at md k1
      simp at md
      rw [if_pos (by omega)]
      exact k1 rfl
  simp
  cases ha : d.all digB with
  | false =>
    have : readI w = none := by unfold readI; rw [← hd, if_neg (by rw [ha]; simp)]
    rw [this] at q
    rw [List.all_eq_false] at ha
    rw [if_pos (by obtain ⟨c, h1, h2⟩ := ha; exact ⟨c, h1, by simpa using h2⟩)]
    exact q
  | true =>
    have ha' := List.all_eq_true.mp ha
    rw [if_neg (fun h => by obtain ⟨c, h1, h2⟩ := h; rw [ha' c h1] at h2; cases h2)]
    have l1 : 1 ≤ d.length := by cases d with | nil => exact absurd rfl h0 | cons c l => simp
    have er : readI w = if d.head? = some 48 ∧ w ≠ [48] then none else some (if w.take 1 = [45] then -((NumText.digitsVal d : Nat) : Int) else (NumText.digitsVal d : Nat)) := by
      unfold readI; rw [← hd, if_pos ⟨l1, by omega, ha⟩]
    cases d with
    | nil => exact absurd rfl h0
    | cons e0 d' =>
      refine ⟨by omega, e0, by simp, ?_⟩
      have num : ∃ n, intText? (mkS w) = some n ∧ n = if w.take 1 = [45] then -((NumText.digitsVal (e0 :: d') : Nat) : Int) else (NumText.digitsVal (e0 :: d') : Nat) := by
        by_cases h45 : w.take 1 = [45]
        · rw [if_pos h45]
          have ew : w = 45 :: (e0 :: d') := by
            unfold barW at hd
            rw [if_pos h45] at hd
            cases w with
            | nil => simp at h45
            | cons c l => simp at h45 hd; rw [h45, ← hd]
          rw [ew]
          exact ⟨_, intText_neg (x := mkS (45 :: e0 :: d')) (cs := e0 :: d') rfl (all_of ha) (by simp) (by simp at h20 ⊢; omega), rfl⟩
        · rw [if_neg h45]
          have ew : w = e0 :: d' := by
            unfold barW at hd
            rw [if_neg h45] at hd
            exact hd.symm
          rw [ew]
          exact ⟨_, intText_digits (x := mkS (e0 :: d')) (all_of ha) (by simp) (by simp at h20 ⊢; omega), rfl⟩
      have wl : w.length ≤ 640 := by
        have : w.length ≤ (e0 :: d').length + 1 := by
          rw [hd]; unfold barW; split
          · rw [List.length_drop]; omega
          · omega
        simp at this h20
        omega
      rw [er] at q
      have fin1 : ∀ x : PyData, (¬ ((e0 :: d').head? = some 48 ∧ w ≠ [48])) → ∃ n, intText? (mkS w) = some n ∧ w.length ≤ 640 ∧ Q (.py (.int n)) := fun _ hn => by
        rw [if_neg hn] at q
        obtain ⟨n, h1, h2⟩ := num
        rw [← h2] at q
        exact ⟨n, h1, wl, q⟩
      by_cases h48 : e0 = 48
      · rw [if_pos h48]
        by_cases hw48 : w = [48]
        · rw [if_pos hw48]
          exact fin1 .none (fun h => h.2 hw48)
        · rw [if_neg hw48]
          rw [if_pos ⟨by rw [h48]; rfl, hw48⟩] at q
          exact q
      · rw [if_neg h48]
        exact fin1 .none (fun h => h48 (by simpa using h.1))
theorem l_law_number : ∀ ds Q E, S_law_number ds Q E → t_law_number (envOf 3 ds) (fin Q E) := by
  rintro ds Q E ⟨w, rfl, hw, q⟩
  have e : t_law_number = sSeq (sSet 1 (vIf (vTst (vBin gEq (vSl gSl (vBor 0) oNo (oAt (vC (.py (.int 1))))) (vC (.py (.str "-"))))) (vSl gSl (vBor 0) (oAt (vC (.py (.int 1)))) oNo) (vVar 0))) numB := rfl
  have c1 : cutL w none (some 1) = w.take 1 := by rw [cutL_take w (by omega)]; rfl
  have c2 : cutL w (some 1) none = w.drop 1 := by rw [cutL_drop w (by omega)]; rfl
  rw [e]
  simp [c1, c2, lit_dash]
  refine ⟨by omega, ?_⟩
  by_cases h45 : w.take 1 = [45]
  · rw [if_pos h45]
    exact ⟨by omega, numB_ok (by unfold barW; rw [if_pos h45]; simp) hw q⟩
  · rw [if_neg h45]
    exact numB_ok (by unfold barW; rw [if_neg h45]) hw q
end LawP
set_option Elab.async false
set_option linter.all false
set_option maxRecDepth 100000
set_option maxHeartbeats 4000000
namespace LawP
open PySem PySem.Spec PyProof.Rows L2 VL TL HT
def dueR (f : PyData → Bool) (ws : List Str) : PyData := match scanR f 0 ws with
  | .inr is => tI is
  | .inl j => .list [.int (j : Nat)]
@[simp] def S_law_row_of : SV := fun ds Q _ => ∃ z : Str, ds = [.py (.str z)] ∧ z.length ≤ 100000 ∧ Q (.py (dueR (fun p => isInt p 0 1000000000) (wordsOf z)))
theorem l_law_row_of : ∀ ds Q E, S_law_row_of ds Q E → t_law_row_of S_law_number (envOf 5 ds) (fin Q E) := by
  rintro ds Q E ⟨z, rfl, hz, q⟩
  obtain ⟨hw1, hw2⟩ := split_small hz
  simp [t_law_row_of, lit_space, -forGo, -S_law_number]
  refine ⟨by omega, ?_⟩
  have ee : enumP ((Txt.split z (mkS [32])).map PyData.str) = (Txt.split z (mkS [32])).zipIdx.map (encE PyData.str) := enumP_enc _ _
  rw [ee]
  unfold dueR wordsOf at q
  generalize Txt.split z (mkS [32]) = ws at hw1 hw2 q
  refine for_enc (encE PyData.str) (fun k ρ => ∃ (is : List Int) (x y u : VL.Slot), ρ = [.shr (.py (.str z)), .own (.py (.list (is.map PyData.int))), x, y, u] ∧ is.length = k ∧ k ≤ 40 ∧
    (∀ js, scanR (fun p => isInt p 0 1000000000) k (ws.drop k) = .inr js → Q (.py (tI (is ++ js)))) ∧ (∀ j, scanR (fun p => isInt p 0 1000000000) k (ws.drop k) = .inl j → Q (.py (.list [.int (j : Nat)])))) ⟨[], _, _, _, rfl, rfl, by omega, fun js h => ?_, fun j h => ?_⟩ (fun k d ρ hd iv nx ct hn => ?_) (fun ρ iv => ?_)
  · have h : scanR (fun p => isInt p 0 1000000000) 0 ws = .inr js := h
    rw [h] at q; exact q
  · have h : scanR (fun p => isInt p 0 1000000000) 0 ws = .inl j := h
    rw [h] at q; exact q
  · obtain ⟨is, x, y, u, rfl, i1, i0, i2, i3⟩ := iv
    obtain ⟨zz, hzz, rfl⟩ := zipIdx_at hd
    have hk := (List.getElem?_eq_some_iff.mp hzz).1
    have hzl := hw2 zz (List.mem_of_getElem? hzz)
    rw [drop_at' hzz, scanR_cons] at i2 i3
    simp [-S_law_number]
    refine ⟨sl zz, by rw [mkS_sl], by rw [slen]; omega, ?_⟩
    cases hr : readI (sl zz) with
    | none =>
      rw [hr] at i3
      have := i3 k rfl
      simpa [isInt] using this
    | some i =>
      rw [hr] at i2 i3
      simp only at i2 i3
      cases hb : isInt (.int i) 0 1000000000 with
      | false =>
        rw [hb] at i3
        have := i3 k rfl
        have hb' : ¬ (0 ≤ i ∧ i ≤ 1000000000) := by simpa [isInt] using hb
        simp
        split
        · rw [if_neg (by omega)]; exact this
        · exact this
      | true =>
        rw [hb] at i2 i3
        have hb' : 0 ≤ i ∧ i ≤ 1000000000 := by simpa [isInt] using hb
        by_cases h40 : k < 40
        · simp only [h40, decide_true, Bool.and_self, if_true] at i2 i3
          simp
          rw [if_pos hb'.1, if_pos hb'.2, if_neg (by omega)]
          refine ⟨by omega, (hn _ ⟨is ++ [i], .shr (.py (.int (k : Nat))), .shr (.py (.str zz)), .shr (.py (.int i)), by rw [List.map_append]; rfl, by simp [i1], by omega, fun js h => ?_, fun j h => ?_⟩).1⟩
          · rw [h] at i2
            rw [List.append_assoc]
            exact i2 (i :: js) rfl
          · rw [h] at i3
            exact i3 j rfl
        · have := i3 k (by simp [h40])
          simp
          rw [if_pos hb'.1, if_pos hb'.2, if_pos (by omega)]
          exact this
  · obtain ⟨is, x, y, u, rfl, i1, i0, i2, i3⟩ := iv
    rw [List.length_zipIdx, List.drop_length] at i2
    have := i2 [] rfl
    simpa using this
@[simp] def S_law_persons_of : SV := fun ds Q _ => ∃ (m : Nat) (z : Str), ds = [.py (.int (m : Nat)), .py (.str z)] ∧ z.length ≤ 100000 ∧ Q (.py (if z = mkS [110, 111, 110, 101] then .tuple [] else dueR (fun p => isInt p 0 ((m : Int) - 1)) (wordsOf z)))
theorem l_law_persons_of : ∀ ds Q E, S_law_persons_of ds Q E → t_law_persons_of S_law_number (envOf 6 ds) (fin Q E) := by
  rintro ds Q E ⟨m, z, rfl, hz, q⟩
  obtain ⟨hw1, hw2⟩ := split_small hz
  simp [t_law_persons_of, lit_space, lit_none, -forGo, -S_law_number]
  by_cases hnn : z = mkS [110, 111, 110, 101]
  · rw [if_pos hnn] at q
    rw [if_pos hnn]
    simp [enumP]
    exact q
  rw [if_neg hnn] at q
  rw [if_neg hnn]
  refine ⟨by omega, ?_⟩
  have ee : enumP ((Txt.split z (mkS [32])).map PyData.str) = (Txt.split z (mkS [32])).zipIdx.map (encE PyData.str) := enumP_enc _ _
  rw [ee]
  unfold dueR wordsOf at q
  generalize Txt.split z (mkS [32]) = ws at hw1 hw2 q
  refine for_enc (encE PyData.str) (fun k ρ => ∃ (is : List Int) (x y u : VL.Slot), ρ = [.shr (.py (.int (m : Nat))), .shr (.py (.str z)), .own (.py (.list (is.map PyData.int))), x, y, u] ∧ is.length = k ∧ k ≤ 40 ∧
    (∀ js, scanR (fun p => isInt p 0 ((m : Int) - 1)) k (ws.drop k) = .inr js → Q (.py (tI (is ++ js)))) ∧ (∀ j, scanR (fun p => isInt p 0 ((m : Int) - 1)) k (ws.drop k) = .inl j → Q (.py (.list [.int (j : Nat)])))) ⟨[], _, _, _, rfl, rfl, by omega, fun js h => ?_, fun j h => ?_⟩ (fun k d ρ hd iv nx ct hn => ?_) (fun ρ iv => ?_)
  · have h : scanR (fun p => isInt p 0 ((m : Int) - 1)) 0 ws = .inr js := h
    rw [h] at q; exact q
  · have h : scanR (fun p => isInt p 0 ((m : Int) - 1)) 0 ws = .inl j := h
    rw [h] at q; exact q
  · obtain ⟨is, x, y, u, rfl, i1, i0, i2, i3⟩ := iv
    obtain ⟨zz, hzz, rfl⟩ := zipIdx_at hd
    have hk := (List.getElem?_eq_some_iff.mp hzz).1
    have hzl := hw2 zz (List.mem_of_getElem? hzz)
    rw [drop_at' hzz, scanR_cons] at i2 i3
    simp [-S_law_number]
    refine ⟨sl zz, by rw [mkS_sl], by rw [slen]; omega, ?_⟩
    cases hr : readI (sl zz) with
    | none =>
      rw [hr] at i3
      have := i3 k rfl
      simpa [isInt] using this
    | some i =>
      rw [hr] at i2 i3
      simp only at i2 i3
      cases hb : isInt (.int i) 0 ((m : Int) - 1) with
      | false =>
        rw [hb] at i3
        have := i3 k rfl
        have hb' : ¬ (0 ≤ i ∧ i ≤ (m : Int) - 1) := by simpa [isInt] using hb
        simp
        split
        · rw [if_neg (by omega)]; exact this
        · exact this
      | true =>
        rw [hb] at i2 i3
        have hb' : 0 ≤ i ∧ i ≤ (m : Int) - 1 := by simpa [isInt] using hb
        by_cases h40 : k < 40
        · simp only [h40, decide_true, Bool.and_self, if_true] at i2 i3
          simp
          rw [if_pos hb'.1, if_pos (by omega), if_neg (by omega)]
          refine ⟨by omega, (hn _ ⟨is ++ [i], .shr (.py (.int (k : Nat))), .shr (.py (.str zz)), .shr (.py (.int i)), by rw [List.map_append]; rfl, by simp [i1], by omega, fun js h => ?_, fun j h => ?_⟩).1⟩
          · rw [h] at i2
            rw [List.append_assoc]
            exact i2 (i :: js) rfl
          · rw [h] at i3
            exact i3 j rfl
        · have := i3 k (by simp [h40])
          simp
          rw [if_pos hb'.1, if_pos (by omega), if_pos (by omega)]
          exact this
  · obtain ⟨is, x, y, u, rfl, i1, i0, i2, i3⟩ := iv
    rw [List.length_zipIdx, List.drop_length] at i2
    have := i2 [] rfl
    simpa using this
end LawP
set_option Elab.async false
set_option linter.all false
set_option maxRecDepth 100000
set_option maxHeartbeats 4000000
namespace LawP
open PySem PySem.Spec PyProof.Rows L2 VL TL HT
def dueW (w : List Nat) : PyData := match lawW w with
  | some u => .str (mkS u)
  | none => .list [.int 0]
@[simp] def S_law_word_of : SV := fun ds Q _ => ∃ w : List Nat, ds = [.py (.str (mkS w))] ∧ w.length ≤ 10000 ∧ Q (.py (dueW w))
theorem twl_at : ∀ (r : List Nat) (j : Nat), j < (r.takeWhile digB).length → ∃ d, r[j]? = some d ∧ digB d = true
  | [], j, h => by simp at h
  | c :: r, j, h => by
    rw [List.takeWhile_cons] at h
    split at h
    · rename_i hc
      cases j with
      | zero => exact ⟨c, rfl, hc⟩
      | succ j => obtain ⟨d, h1, h2⟩ := twl_at r j (by simpa using h); exact ⟨d, by simpa using h1, h2⟩
    · simp at h
theorem twl_end : ∀ (r : List Nat) (d : Nat), r[(r.takeWhile digB).length]? = some d → digB d = false
  | [], d, h => by simp at h
  | c :: r, d, h => by
    rw [List.takeWhile_cons] at h
    split at h
    · exact twl_end r d (by simpa using h)
    · rename_i hc
      simp at h
      rw [← h]
      simpa using hc
theorem twl_take : ∀ (r : List Nat), r.take (r.takeWhile digB).length = r.takeWhile digB ∧ r.drop (r.takeWhile digB).length = r.dropWhile digB ∧ (r.takeWhile digB).length ≤ r.length
  | [] => by simp
  | c :: r => by
    obtain ⟨h1, h2, h3⟩ := twl_take r
    rw [List.takeWhile_cons, List.dropWhile_cons]
    split
    · simp [h1, h2, h3]
    · simp
theorem cutL_mid {α : Type} (xs : List α) {a b : Nat} (h1 : a ≤ b) (h2 : b ≤ xs.length) : cutL xs (some (a : Int)) (some (b : Int)) = (xs.drop a).take (b - a) := by
  unfold cutL HT.sIx
  simp
  rw [if_neg (by omega), if_neg (by omega), Nat.min_eq_left h2, Nat.min_eq_left (Nat.le_trans h1 h2)]
theorem cutL_last (acc : List Nat) (c : Nat) : cutL acc (some (-1)) none = [c] ↔ acc.getLast? = some c := by
  rcases List.eq_nil_or_concat acc with rfl | ⟨l, x, rfl⟩
  · simp [cutL]
  · rw [List.concat_eq_append]
    have e : (-1 + ((l ++ [x]).length : Int)).toNat = l.length := by simp; omega
    unfold cutL HT.sIx
    simp
    rw [show (-1 + ((l.length : Int) + 1)).toNat = l.length from by omega]
    simp
theorem l_law_word_of : ∀ ds Q E, S_law_word_of ds Q E → t_law_word_of (envOf 5 ds) (fin Q E) := by
  rintro ds Q E ⟨w, rfl, hw, q⟩
  simp only [t_law_word_of, lit_dash, lit_empty, lit_digits, lit_zero, lit_a', lit_s', lit_one]
  simp
  by_cases h45 : w = [45]
  · rw [if_pos h45]
    unfold dueW lawW at q
    rw [if_pos h45] at q
    exact q
  rw [if_neg h45]
  unfold dueW lawW at q
  rw [if_neg h45] at q
  refine ⟨fun m ρ => ∃ (acc : List Nat) (k f : Nat) (x y : VL.Slot), ρ = [.shr (.py (.str (mkS w))), .shr (.py (.str (mkS acc))), .shr (.py (.int (k : Nat))), x, y] ∧ k + m = w.length ∧ w.length - k < f ∧ acc.length ≤ 99 * k ∧
    lawP f (w.drop k) acc = lawP (w.length + 1) w [], ⟨w.length, [], 0, w.length + 1, .un, .un, rfl, by omega, by omega, by simp, rfl⟩, ?_⟩
  rintro m ρ ⟨acc, k, f, x, y, rfl, i1, i2, i3, i4⟩
  simp
  refine ⟨by omega, ?_⟩
  by_cases hk : k < w.length
  · rw [if_pos hk]
    obtain ⟨c, hc⟩ : ∃ c, w[k]? = some c := ⟨_, List.getElem?_eq_getElem hk⟩
    obtain ⟨f, rfl⟩ : ∃ f', f = f' + 1 := ⟨f - 1, by omega⟩
    have ed := drop_at' hc
    rw [ed] at i4
    obtain ⟨t1, t2, t3⟩ := twl_take (w.drop (k + 1))
    have ta := twl_at (w.drop (k + 1))
    have te := twl_end (w.drop (k + 1))
    rw [List.length_drop] at t3
    generalize hT : ((w.drop (k + 1)).takeWhile digB).length = T at t1 t2 t3 ta te
    refine ⟨fun m2 ρ => ∃ e : Nat, ρ = [.shr (.py (.str (mkS w))), .shr (.py (.str (mkS acc))), .shr (.py (.int (k : Nat))), .shr (.py (.int (e : Nat))), y] ∧ k + 1 ≤ e ∧ e + m2 = k + 1 + T, ⟨T, k + 1, by simp, by omega, by omega⟩, ?_⟩
    rintro m2 ρ ⟨e, rfl, j1, j2⟩
    simp
    refine ⟨by omega, ?_⟩
    by_cases hj : e < k + 1 + T
    · obtain ⟨d, hd1, hd2⟩ := ta (e - (k + 1)) (by omega)
      rw [List.getElem?_drop, show k + 1 + (e - (k + 1)) = e from by omega] at hd1
      rw [if_pos (by omega)]
      refine ⟨by omega, d, atI_nat hd1, ?_⟩
      have md := mem_digits d
      rw [hd2] at md
      simp at md
      rw [if_pos md]
      exact ⟨m2 - 1, by omega, e + 1, by omega, by omega, by omega⟩
    have he : e = k + 1 + T := by omega
    have ak : atI w (k : Int) = some c := atI_nat hc
    have ecut : cutL w (some ((k : Int) + 1)) (some (e : Int)) = (w.drop (k + 1)).takeWhile digB := by
      rw [show ((k : Int) + 1) = ((k + 1 : Nat) : Int) from by omega, cutL_mid w (by omega) (by omega), show e - (k + 1) = T from by omega, t1]
    have i5 : (if badSh c ((w.drop (k + 1)).takeWhile digB) then none else if acc.getLast? = some c then none else lawP f ((w.drop (k + 1)).dropWhile digB) (acc ++ List.replicate (valW ((w.drop (k + 1)).takeWhile digB)) c)) = lawP (w.length + 1) w [] := i4
    have dd := takeW_all (w.drop (k + 1))
    rw [← t2, List.drop_drop, show k + 1 + T = e from by omega] at i5
    refine if_out (fun hl hB => ?_) ?_
    · refine ⟨by omega, w[e], atI_nat (List.getElem?_eq_getElem hl), ?_⟩
      have hne := te w[e] (by rw [List.getElem?_drop, ← he]; exact List.getElem?_eq_getElem hl)
      have md := mem_digits w[e]
      rw [hne] at md
      simp at md
      rw [if_neg (by omega)]
      exact hB
    rw [ecut]
    have dl : ((w.drop (k + 1)).takeWhile digB).length = T := hT
    generalize (w.drop (k + 1)).takeWhile digB = ds at i5 dd dl
    have bad : badSh c ds → Q (.py (.list [.int 0])) := fun h => by
      rw [if_pos h] at i5
      rw [← i5] at q
      exact q
    refine ⟨by omega, c, ak, ?_⟩
    by_cases b1 : ¬ (c = 97 ∨ c = 115)
    · rw [if_pos (by omega)]
      exact bad (.inl b1)
    rw [if_neg (by omega)]
    by_cases b2 : ds = [48] ∨ ds = [49]
    · rw [if_pos (b2.imp Eq.symm Eq.symm)]
      exact bad (.inr (.inl b2))
    rw [if_neg (fun h => b2 (h.imp Eq.symm Eq.symm))]
    refine ⟨by omega, ?_⟩
    rw [show cutL ds none (some 1) = ds.take 1 from by rw [cutL_take ds (by omega)]; rfl]
    by_cases b3 : ds.take 1 = [48]
    · rw [if_pos b3]
      exact bad (.inr (.inr (.inl b3)))
    rw [if_neg b3]
    refine ⟨by omega, ?_⟩
    by_cases b4 : 2 < ds.length
    · rw [if_pos (by omega)]
      exact bad (.inr (.inr (.inr b4)))
    rw [if_neg (by omega)]
    have nb : ¬ badSh c ds := fun h => by
      unfold badSh at h
      rcases h with h | h | h | h
      · exact b1 h
      · exact b2 h
      · exact b3 h
      · exact b4 h
    obtain ⟨g1, g2, g3, g4⟩ := good_ds dd nb
    rw [if_neg nb] at i5
    refine ⟨by omega, by omega, c, ak, ?_⟩
    by_cases b5 : acc.getLast? = some c
    · rw [if_pos ((cutL_last acc c).mpr b5)]
      rw [if_pos b5] at i5
      rw [← i5] at q
      exact q
    rw [if_neg (fun h => b5 ((cutL_last acc c).mp h))]
    rw [if_neg b5] at i5
    refine ⟨by omega, c, ak, ?_⟩
    have nxt : ∀ n : Nat, n = valW ds → ∃ m', m' < m ∧ ∃ acc_1 k, (acc ++ List.replicate ((n : Int)).toNat c = acc_1 ∧ (e : Int) = ((k : Nat) : Int)) ∧ k + m' = w.length ∧ ∃ x, w.length - k < x ∧ acc_1.length ≤ 99 * k ∧ lawP x (List.drop k w) acc_1 = lawP (w.length + 1) w [] := fun n hn => by
      subst hn
      refine ⟨w.length - e, by omega, _, e, ⟨rfl, rfl⟩, by omega, f, by omega, ?_, ?_⟩
      · rw [Int.toNat_natCast, List.length_append, List.length_replicate]
        omega
      · rw [Int.toNat_natCast]
        exact i5
    by_cases b6 : ds = []
    · rw [if_pos b6]
      have ev : valW ds = 1 := by unfold valW; rw [if_pos b6]
      exact ⟨1, by decide +kernel, by omega, by omega, nxt 1 ev.symm⟩
    · rw [if_neg b6]
      have ev : valW ds = NumText.digitsVal ds := by unfold valW; rw [if_neg b6]
      refine ⟨(NumText.digitsVal ds : Nat), intText_digits (x := mkS ds) (all_of dd) (by simpa using b6) (by simp; omega), by omega, by omega, by rw [Int.toNat_natCast]; omega, nxt _ ev.symm⟩
  · rw [if_neg hk]
    have ek : k = w.length := by omega
    obtain ⟨f, rfl⟩ : ∃ f', f = f' + 1 := ⟨f - 1, by omega⟩
    rw [ek, List.drop_length] at i4
    have i4 : (if 0 < acc.length ∧ acc.length ≤ 80 then some acc else none) = lawP (w.length + 1) w [] := i4
    rw [← i4] at q
    refine ⟨by omega, ?_⟩
    by_cases h1 : 0 < acc.length
    · rw [if_pos h1]
      by_cases h2 : acc.length ≤ 80
      · rw [if_pos (by omega)]
        rw [if_pos ⟨h1, h2⟩] at q
        exact q
      · rw [if_neg (by omega)]
        rw [if_neg (by omega)] at q
        exact q
    · rw [if_neg h1]
      rw [if_neg (by omega)] at q
      exact q
end LawP
set_option Elab.async false
set_option linter.all false
set_option maxRecDepth 100000
set_option maxHeartbeats 4000000
namespace LawP
open PySem PySem.Spec PyProof.Rows L2 VL TL HT
@[simp] theorem bt1 : errSub "BadText" "LineError" = true := by decide +kernel
@[simp] theorem bt2 : errSub "BadText" "ValueError" = true := by decide +kernel
@[simp] theorem bt3 : errSub "BadText" "BadText" = true := by decide +kernel
@[simp] theorem bt4 : errSub "BadText" "BadBatch" = false := by decide +kernel
@[simp] theorem bt5 : errSub "BadText" "BadCount" = false := by decide +kernel
@[simp] theorem bt6 : errSub "BadText" "NoIndex" = false := by decide +kernel
@[simp] theorem bt7 : errSub "BadText" "Rejected" = false := by decide +kernel
def foundD (k m : Nat) : PyData → PyData
  | .str z => if k = 0 then dueR (fun p => isInt p 0 1000000000) (wordsOf z) else if k = 1 then (if z = mkS [110, 111, 110, 101] then .tuple [] else dueR (fun p => isInt p 0 ((m : Int) - 1)) (wordsOf z)) else dueW (sl z)
  | _ => .list [.none]
theorem foundD_no {k m : Nat} {p : PyData} (h : ∀ z, p ≠ .str z) : foundD k m p = .list [.none] := by
  cases p <;> first | rfl | exact absurd rfl (h _)
@[simp] def S_law_found : SV := fun ds Q _ => ∃ (k : Nat) (rw : List PyData) (p : PyData), ds = [.py (.int (k : Nat)), .py (.tuple rw), .py p] ∧ rw.length ≤ 100000 ∧ (∀ z, p = .str z → z.length ≤ 10000) ∧ k < 3 ∧ Q (.py (foundD k rw.length p))
theorem l_law_found : ∀ ds Q E, S_law_found ds Q E → t_law_found S_parse_row S_parse_persons S_long_word (envOf 6 ds) (fin Q E) := by
  rintro ds Q E ⟨k, rw', p, rfl, h1, h2, h3, q⟩
  simp [t_law_found, -S_parse_row, -S_parse_persons, -S_long_word]
  match k, h3 with
  | 0, _ =>
    simp [-S_parse_row, -S_parse_persons, -S_long_word]
    refine ⟨p, rfl, fun z e => by have := h2 z e; omega, fun z is e h => ?_, fun z j e h => ?_, fun h => ?_⟩
    · subst e
      simp only [foundD, dueR] at q
      rw [h] at q
      simpa using q
    · subst e
      simp only [foundD, dueR] at q
      rw [h] at q
      simpa [List.lookup] using q
    · rw [foundD_no h] at q
      simpa [List.lookup] using q
  | 1, _ =>
    simp [-S_parse_row, -S_parse_persons, -S_long_word]
    refine ⟨rw', p, rfl, h1, fun z e => by have := h2 z e; omega, fun z e e2 => ?_, fun z is e e2 h => ?_, fun z j e e2 h => ?_, fun h => ?_⟩
    · subst e
      simp only [foundD] at q
      rw [if_pos e2] at q
      simpa using q
    · subst e
      simp only [foundD, dueR] at q
      rw [if_neg e2, h] at q
      simpa using q
    · subst e
      simp only [foundD, dueR] at q
      rw [if_neg e2, h] at q
      simpa [List.lookup] using q
    · rw [foundD_no h] at q
      simpa [List.lookup] using q
  | 2, _ =>
    simp [-S_parse_row, -S_parse_persons, -S_long_word]
    refine ⟨p, rfl, fun z e => by have := h2 z e; omega, fun z u e h => ?_, fun z e h => ?_, fun h => ?_⟩
    · subst e
      simp only [foundD, dueW] at q
      rw [if_neg (by omega), if_neg (by omega), law_long, h] at q
      simpa using q
    · subst e
      simp only [foundD, dueW] at q
      rw [if_neg (by omega), if_neg (by omega), law_long, h] at q
      simpa [List.lookup] using q
    · rw [foundD_no h] at q
      simpa [List.lookup] using q
end LawP
set_option Elab.async false
set_option linter.all false
set_option maxRecDepth 100000
set_option maxHeartbeats 4000000
namespace LawP
open PySem PySem.Spec PyProof.Rows L2 VL TL HT
theorem spl_sum (S : List Nat) : ∀ (l : List Nat) (k : Nat) (acc : List Nat), ((TL.spl S k acc l).map List.length).sum + (TL.spl S k acc l).length ≤ acc.length + l.length + 1
  | [], k, acc => by rw [TL.spl_nil]; simp
  | c :: r, 0, acc => by
    unfold TL.spl
    split
    · have := spl_sum S r (S.length - 1) []
      simp at this ⊢
      omega
    · have := spl_sum S r 0 (acc ++ [c])
      simp at this ⊢
      omega
  | c :: r, k + 1, acc => by
    unfold TL.spl
    have := spl_sum S r k acc
    simp at this ⊢
    omega
def totP (xs : List PyData) : Nat := (xs.map fun x => (itS x).length + 1).sum
theorem totP_app (a b : List PyData) : totP (a ++ b) = totP a + totP b := by simp [totP]
theorem totP_cut (xs : List PyData) (n : Nat) : totP (xs.take n) + totP (xs.drop n) = totP xs := by rw [← totP_app, List.take_append_drop]
theorem totP_rev (xs : List PyData) : totP xs.reverse = totP xs := by simp [totP, List.sum_reverse]
theorem joinL_len : ∀ ps : List (List Nat), (TL.joinL [32] ps).length ≤ (ps.map fun p => p.length + 1).sum
  | [] => by simp [TL.joinL]
  | [p] => by simp [TL.joinL]
  | p :: q :: r => by
    have e : TL.joinL [32] (p :: q :: r) = p ++ ([32] ++ TL.joinL [32] (q :: r)) := rfl
    have := joinL_len (q :: r)
    rw [e]
    simp at this ⊢
    omega
theorem join_le (xs : List PyData) : (Txt.join (mkS [32]) (xs.map itS)).length ≤ totP xs := by
  rw [TL.len_tl, TL.join_eq, TL.tl_join]
  have := joinL_len ((xs.map itS).map TL.tl)
  unfold totP
  have e : (xs.map fun x => (itS x).length + 1) = ((xs.map itS).map TL.tl).map fun p => p.length + 1 := by
    rw [List.map_map, List.map_map]
    refine List.map_congr_left fun x _ => ?_
    show (itS x).length + 1 = (TL.tl (itS x)).length + 1
    rw [TL.len_tl]
  rw [e]
  exact this
theorem tot_words (z : Str) (hz : z.length ≤ 100000) : totP ((Txt.split z (mkS [32])).map PyData.str) ≤ z.length + 1 := by
  have e := TL.split_spl z (mkS [32]) (by decide) (TL.kind_ok (by simp [mkS]))
  have h := spl_sum (TL.tl (mkS [32])) (TL.tl z) 0 []
  rw [← e] at h
  have e2 : totP ((Txt.split z (mkS [32])).map PyData.str) = (((Txt.split z (mkS [32])).map TL.tl).map List.length).sum + ((Txt.split z (mkS [32])).map TL.tl).length := by
    unfold totP
    generalize Txt.split z (mkS [32]) = ws
    induction ws with
    | nil => rfl
    | cons w ws ih =>
      simp only [List.map_cons, List.sum_cons, List.length_cons] at ih ⊢
      rw [ih]
      show w.length + 1 + _ = _
      rw [TL.len_tl w]
      omega
  rw [e2]
  rw [TL.len_tl z]
  simpa using h
theorem SPC {xs : List PyData} {K : D → Prop} {E : Er → Prop} (h1 : xs.length ≤ 5000) (h2 : ∀ x ∈ xs, ∃ z, x = .str z ∧ z.length ≤ 900) (h3 : totP xs ≤ 5000) (k : ∀ u : List Nat, u.length ≤ 5000 → K (.py (.str (mkS u)))) : S_x_spaced [.py (.list xs)] K E := by
  refine ⟨_, xs, rfl, .inl rfl, h1, fun x hx => ?_, ?_⟩
  · obtain ⟨z, rfl, hz⟩ := h2 x hx
    exact .inr ⟨z, rfl, by omega⟩
  · have := join_le xs
    have e := k (sl (Txt.join (mkS [32]) (xs.map itS))) (by rw [slen]; omega)
    rwa [mkS_sl] at e
@[simp] def S_law_changed (r : Addr) : SV := fun ds Q _ => ∃ t : List Nat, ds = [.raw (.ref r), .py (.str (mkS t))] ∧ t.length ≤ 899 ∧ ∀ u : List Nat, u.length ≤ 10000 → Q (.py (.str (mkS u)))
theorem l_law_changed (r : Addr) : ∀ ds Q E, S_law_changed r ds Q E → t_law_changed (svTake r) (svPick r) S_x_spaced (envOf 9 ds) (fin Q E) := by
  rintro ds Q E ⟨t, rfl, ht, q⟩
  have hz : (mkS t).length ≤ 100000 := by simp; omega
  have tw := tot_words (mkS t) hz
  obtain ⟨hw1, hw2⟩ := split_small hz
  have tl : (mkS t).length = t.length := by simp
  rw [tl] at tw hw1 hw2
  simp [t_law_changed, lit_space, -S_x_spaced]
  generalize Txt.split (mkS t) (mkS [32]) = ws at tw hw1 hw2 ⊢
  have one : ∀ y ∈ ([PyData.str (Str.ofString "0"), PyData.str (mkS [32]), PyData.str (Str.ofString "-"), PyData.str (Str.ofString "1"), PyData.str (mkS [97]), PyData.str (Str.ofString "\n"), PyData.str (Str.ofString "7"), PyData.str (mkS [115]), PyData.str (Str.ofString "+"), PyData.str (Str.ofString "x")] : List PyData), ∃ s : List Nat, y = .str (mkS s) ∧ s.length ≤ 1 := fun y hy => by
    have e1 : ∀ z : Str, z.length = 1 → ∃ s : List Nat, PyData.str z = .str (mkS s) ∧ s.length ≤ 1 := fun z hz => ⟨sl z, by rw [mkS_sl], by rw [slen, hz]; omega⟩
    simp only [List.mem_cons, List.not_mem_nil, or_false] at hy
    rcases hy with rfl | rfl | rfl | rfl | rfl | rfl | rfl | rfl | rfl | rfl <;> exact e1 _ (by decide +kernel)
  have l1 : (Str.ofString "1").length = 1 := by decide +kernel
  have two : ∀ y ∈ List.map PyData.str ws ++ [PyData.str (mkS []), PyData.str (Str.ofString "00"), PyData.str (Str.ofString "05"), PyData.str (Str.ofString "-1"), PyData.str (Str.ofString "-0"), PyData.str (Str.ofString "1000000000"), PyData.str (Str.ofString "1000000001"), PyData.str (Str.ofString "39"), PyData.str (Str.ofString "40"), PyData.str (repS (Str.ofString "1") 21), PyData.str (repS (Str.ofString "1") 300), PyData.str (Str.ofString "none")], ∃ s : Str, y = .str s ∧ s.length ≤ 900 := fun y hy => by
    rcases List.mem_append.mp hy with h | h
    · obtain ⟨z, hz, rfl⟩ := List.mem_map.mp h
      exact ⟨z, rfl, by have := hw2 z hz; omega⟩
    · simp only [List.mem_cons, List.not_mem_nil, or_false] at h
      rcases h with rfl | rfl | rfl | rfl | rfl | rfl | rfl | rfl | rfl | rfl | rfl | rfl <;> exact ⟨_, rfl, by decide +kernel⟩
  refine ⟨by omega, by omega, fun x x0 x1 => ⟨by omega, by omega, fun y y0 y1 => fun s1 hs1 => ⟨by omega, by omega, by omega, by omega, fun s2 hs2 => ⟨by omega, ?_⟩⟩⟩⟩
  obtain ⟨s, rfl, hs⟩ := one s1 hs1
  obtain ⟨p, rfl, hp⟩ := two s2 hs2
  clear one two
  have lw := cutL_len (ws.map PyData.str)
  have lt := cutL_len t
  rw [List.length_map] at lw
  have lw1 := lw none (some y)
  have lw2 := lw (some y) none
  have lw3 := lw (some (y + 1)) none
  have lt1 := lt none (some x)
  have lt2 := lt (some x) none
  have lt3 := lt (some (x + 1)) none
  have c1 : cutL (ws.map PyData.str) none (some y) = (ws.map PyData.str).take y.toNat := cutL_take _ y0
  have c2 : cutL (ws.map PyData.str) (some y) none = (ws.map PyData.str).drop y.toNat := cutL_drop _ y0
  have c3 : cutL (ws.map PyData.str) (some (y + 1)) none = (ws.map PyData.str).drop (y.toNat + 1) := by rw [cutL_drop _ (by omega)]; congr 1; omega
  simp [-S_x_spaced]
  refine ⟨by omega, by omega, by omega, by omega, by omega, by omega, by omega, by omega, by omega, by omega, by omega, by omega, ?_⟩
  have allw : ∀ x ∈ ws.map PyData.str, ∃ z, x = .str z ∧ z.length ≤ 900 := fun x hx => by
    obtain ⟨z, hz, rfl⟩ := List.mem_map.mp hx
    exact ⟨z, rfl, by have := hw2 z hz; omega⟩
  have tp : totP [PyData.str p] = p.length + 1 := by simp [totP, itS]
  have mix : ∀ (a b : Option Int) (n : Nat), n ≤ (ws.map PyData.str).length → totP (cutL (ws.map PyData.str) none a) + totP (cutL (ws.map PyData.str) b none) ≤ 2000 → ∀ (K : D → Prop) (E : Er → Prop), (∀ u : List Nat, u.length ≤ 5000 → K (.py (.str (mkS u)))) →
      S_x_spaced [.py (.list (cutL (ws.map PyData.str) none a ++ PyData.str p :: cutL (ws.map PyData.str) b none))] K E := fun a b n _ ht2 K E k => by
    refine SPC ?_ (fun x hx => ?_) ?_ k
    · have := lw none a
      have := lw b none
      simp
      omega
    · rcases List.mem_append.mp hx with h | h
      · exact allw x (cutL_mem h)
      · rcases List.mem_cons.mp h with rfl | h
        · exact ⟨p, rfl, hp⟩
        · exact allw x (cutL_mem h)
    · have e : PyData.str p :: cutL (ws.map PyData.str) b none = [PyData.str p] ++ cutL (ws.map PyData.str) b none := rfl
      rw [totP_app, e, totP_app, tp]
      omega
  have tc := totP_cut (ws.map PyData.str) y.toNat
  have tc2 := totP_cut ((ws.map PyData.str).drop y.toNat) 1
  rw [List.drop_drop] at tc2
  refine mix (some y) (some y) 0 (by omega) (by rw [c1, c2]; omega) _ _ fun u1 hu1 => ?_
  refine ⟨by simp, by omega, by omega, mix (some y) (some (y + 1)) 0 (by omega) (by rw [c1, c3]; omega) _ _ fun u2 hu2 => ?_⟩
  refine ⟨by simp, SPC (by simp; omega) (fun x hx => allw x (List.mem_reverse.mp hx)) (by rw [totP_rev]; omega) fun u3 hu3 => ?_⟩
  simp
  refine ⟨by omega, by omega, by omega, fun v hv => ?_⟩
  simp only [List.mem_cons, List.not_mem_nil, or_false] at hv
  rcases hv with rfl | rfl | rfl | rfl | rfl | rfl | rfl | rfl | rfl <;> refine q _ ?_
  · simp only [List.length_append]; omega
  · simp only [List.length_append]; omega
  · simp only [List.length_append]; omega
  · simp; omega
  · omega
  · omega
  · omega
  · simp; omega
  · simp; omega
end LawP
set_option Elab.async false
set_option linter.all false
set_option maxRecDepth 100000
set_option maxHeartbeats 4000000
namespace LawP
open PySem PySem.Spec PyProof.Rows L2 VL TL HT
theorem scanR_ok (f : PyData → Bool) : ∀ (ws : List Str) (k : Nat), k ≤ 40 → (∀ is, scanR f k ws = .inr is → k + is.length ≤ 40 ∧ ∀ i ∈ is, f (.int i) = true) ∧ (∀ j, scanR f k ws = .inl j → j ≤ 40)
  | [], k, hk => ⟨fun is e => (by cases e; exact ⟨by simp; omega, by simp⟩), fun j e => by cases e⟩
  | z :: ws, k, hk => by
    rw [scanR_cons]
    cases hr : readI (sl z) with
    | none => exact ⟨fun is e => (by cases e), fun j e => by cases e; omega⟩
    | some i =>
      simp only
      split
      · rename_i h
        simp at h
        obtain ⟨h1, h2⟩ := h
        have ih := scanR_ok f ws (k + 1) (by omega)
        cases hs : scanR f (k + 1) ws with
        | inl j => exact ⟨fun is e => (by cases e), fun j' e => by cases e; exact ih.2 _ hs⟩
        | inr is =>
          refine ⟨fun is' e => ?_, fun j e => by cases e⟩
          cases e
          obtain ⟨a1, a2⟩ := ih.1 _ hs
          refine ⟨by simp; omega, fun x hx => ?_⟩
          rcases List.mem_cons.mp hx with rfl | hx
          · exact h1
          · exact a2 x hx
      · exact ⟨fun is e => (by cases e), fun j e => by cases e; omega⟩
theorem Sw.one {w d : Nat} {p : PyData} (h : Sw w d p) : Sw (w + 1) (d + 1) (.list [p]) := (Sw.lst (n := 1) (fun x hx => by rw [List.mem_singleton.mp hx]; exact h) (by simp)).mono (by omega) (by omega)
theorem dueR_sw {f : PyData → Bool} {ws : List Str} (hf : ∀ i : Int, f (.int i) = true → 0 ≤ i ∧ i ≤ 1000000000) : Sw 10000 20 (dueR f ws) := by
  have ok := scanR_ok f ws 0 (by omega)
  unfold dueR
  cases hs : scanR f 0 ws with
  | inr is =>
    obtain ⟨h1, h2⟩ := ok.1 _ hs
    exact (Sw.tI (n := 40) (gs := is) (fun g hg => by have := hf g (h2 g hg); omega) (by omega)).mono (by omega) (by omega)
  | inl j => exact (Sw.one (Sw.int (by have := ok.2 _ hs; omega))).mono (by omega) (by omega)
theorem dueW_sw {w : List Nat} : Sw 10000 20 (dueW w) := by
  unfold dueW
  rw [law_long]
  cases h : longW w with
  | some u =>
    obtain ⟨h1, h2, _⟩ := long_inv h
    exact (sw_mkS (n := 100) (by omega) fun c hc => by have := h1 c hc; omega).mono (by omega) (by omega)
  | none => exact (Sw.one (Sw.int (by decide))).mono (by omega) (by omega)
theorem foundD_sw {k m : Nat} {p : PyData} (hm : m ≤ 100) : Sw 10000 20 (foundD k m p) := by
  cases p
  case str z =>
    simp only [foundD]
    split
    · exact dueR_sw (f := fun p => isInt p 0 1000000000) fun i h => by simpa [isInt] using h
    · split
      · split
        · exact (Sw.tI (n := 0) (gs := []) (by simp) (by simp)).mono (by omega) (by omega)
        · exact dueR_sw (f := fun p => isInt p 0 ((m : Int) - 1)) fun i h => by have : 0 ≤ i ∧ i ≤ (m : Int) - 1 := by simpa [isInt] using h
                                                                                omega
      · exact dueW_sw
  all_goals exact (Sw.one Sw.none).mono (by omega) (by omega)
theorem SPI {xs : List PyData} {p : PyData} {K : D → Prop} {E : Er → Prop} (hp : p = .list xs ∨ p = .tuple xs) (h1 : xs.length ≤ 400) (h2 : ∀ x ∈ xs, ∃ i : Int, x = .int i ∧ 0 ≤ i ∧ i < 10 ^ 10) (k : ∀ z : Str, z.length ≤ 5000 → K (.py (.str z))) : S_x_spaced [.py p] K E := by
  refine ⟨p, xs, rfl, hp, by omega, fun x hx => ?_, k _ ?_⟩
  · obtain ⟨i, rfl, i0, i1⟩ := h2 x hx
    exact .inl ⟨i.toNat, by omega, by rw [Int.toNat_of_nonneg i0]⟩
  · have e1 : ∀ {xs : List PyData}, (∀ x ∈ xs, ∃ i : Int, x = .int i ∧ 0 ≤ i ∧ i < 10 ^ 10) → totP xs ≤ 11 * xs.length := by
      intro xs
      induction xs with
      | nil => intro _; simp [totP]
      | cons x xs ih =>
        intro h
        obtain ⟨i, rfl, i0, i1⟩ := h _ List.mem_cons_self
        have h3 := ih fun y hy => h y (List.mem_cons_of_mem _ hy)
        obtain ⟨n, rfl⟩ := Int.eq_ofNat_of_zero_le i0
        have hl := numL_len (k := 10) (n := n) (by omega) (by omega)
        have e : (itS (.int (n : Int))).length = (numL n).length := by rw [itS_num]; simp
        unfold totP at h3 ⊢
        simp only [List.map_cons, List.sum_cons, List.length_cons]
        omega
    have := join_le xs
    have := e1 h2
    omega
def restB (S_law_changed : SV) (S_law_pick : SV) (S_law_row_of : SV) (S_law_persons_of : SV) (S_law_word_of : SV) (S_law_found : SV) : VS :=
  (sSeq (sSet 8 (vLc [12] (iS (vBor 7)) (tgName 12) (vTst (vBin gLt (vCal gLen (vCons (vBor 12) vNil)) (vC (.py (.int 900))))) (vVar 12)))
  (sSeq (sFor (iS (vBin gAdd (vBor 7) (vLc [11] (iR1 (vCons (vC (.py (.int 18))) vNil)) (tgName 11) wYes (vCall S_law_changed (vCons (vVar 1) (vCons (vCall S_law_pick (vCons (vVar 1) (vCons (vVar 8) vNil))) vNil)))))) (tgName 9)
  (sSeq (sSet 10 (vLst (vCons (vCall S_law_row_of (vCons (vVar 9) vNil)) (vCons (vCall S_law_persons_of (vCons (vVar 4) (vCons (vVar 9) vNil))) (vCons (vCall S_law_word_of (vCons (vVar 9) vNil)) vNil)))))
  (sIf (wAnd (vTst (vBin gLe (vCal gLen (vCons (vBor 9) vNil)) (vC (.py (.int 3000))))) (vTst (vBin gNe (vCal gRepr (vCons (vLc [13] (iR1 (vCons (vC (.py (.int 3))) vNil)) (tgName 13) wYes (vCall S_law_found (vCons (vVar 13) (vCons (vVar 3) (vCons (vVar 9) vNil))))) vNil)) (vCal gRepr (vCons (vBor 10) vNil)))))
  (sRet (vC (.py (.bool false))))
  sNext)))
  (sFor (iS (vLst (vCons (vC (.py .none)) (vCons (vC (.py (.int 5))) (vCons (vC (.py (.bool true))) (vCons (vVar 3) (vCons (vLst (vCons (vC (.py (.str "a"))) vNil)) (vCons vD0 (vCons (vCall S_law_pick (vCons (vVar 1) (vCons (vLst (vCons (vTup vNil) (vCons (vLst vNil) (vCons (vC (.py (.int 0))) (vCons (vTup (vCons (vC (.py (.str "a"))) vNil)) (vCons (vD1 (.inr "a") (vC (.py (.int 1)))) vNil)))))) vNil))) vNil))))))))) (tgName 9)
  (sIf (vTst (vBin gNe (vCal gRepr (vCons (vLc [13] (iR1 (vCons (vC (.py (.int 3))) vNil)) (tgName 13) wYes (vCall S_law_found (vCons (vVar 13) (vCons (vVar 3) (vCons (vVar 9) vNil))))) vNil)) (vC (.py (.str "[[None], [None], [None]]")))))
  (sRet (vC (.py (.bool false))))
  sNext))))
theorem t_law_eq (S_law_drawn : SV) (S_law_word : SV) (S_law_take : SV) (S_x_spaced : SV) (S_law_shortened : SV) (S_law_changed : SV) (S_law_pick : SV) (S_law_row_of : SV) (S_law_persons_of : SV) (S_law_word_of : SV) (S_law_found : SV) : t_law S_law_drawn S_law_word S_law_take S_x_spaced S_law_shortened S_law_changed S_law_pick S_law_row_of S_law_persons_of S_law_word_of S_law_found =

  (sSeq (sFor (iR1 (vCons (vC (.py (.int 3))) vNil)) (tgName 2)
  (sSeq (sSet 3 (vCall S_law_drawn (vCons (vVar 1) (vCons (vBin gIx (vLst (vCons (vC (.py (.int 40))) (vCons (vC (.py (.int 12))) (vCons (vC (.py (.int 3))) vNil)))) (vBor 2)) vNil))))
  (sSeq (sPar [4, 5] (mCons false (vCal gLen (vCons (vBor 3) vNil)) (mCons false (vCall S_law_word (vCons (vVar 1) (vCons (vCal gLen (vCons (vBor 3) vNil)) (vCons (vCall S_law_take (vCons (vVar 1) (vCons (vC (.py (.int 5))) vNil))) vNil)))) mNil)))
  (sSeq (sSet 6 (vCall S_x_spaced (vCons (vLc [11] (iR1 (vCons (vBin gAdd (vC (.py (.int 1))) (vCall S_law_take (vCons (vVar 1) (vCons (vC (.py (.int 40))) vNil)))) vNil)) (tgName 11) wYes (vCall S_law_take (vCons (vVar 1) (vCons (vVar 4) vNil)))) vNil)))
  (sSeq (sSet 7 (vLst (vCons (vCall S_x_spaced (vCons (vVar 3) vNil)) (vCons (vVar 6) (vCons (vCall S_law_shortened (vCons (vVar 5) vNil)) (vCons (vC (.py (.str "none"))) (vCons (vC (.py (.str ""))) (vCons (vC (.py (.str " "))) (vCons (vC (.py (.str "-"))) (vCons (vC (.py (.str "0"))) (vCons (vC (.py (.str "a"))) (vCons (vC (.py (.str "s"))) (vCons (vC (.py (.str "a1"))) (vCons (vC (.py (.str "a2"))) (vCons (vC (.py (.str "a02"))) vNil)))))))))))))))
  (sSeq (sSet 7 (vBin gAdd (vBor 7) (vLst (vCons (vC (.py (.str "a0"))) (vCons (vC (.py (.str "aa"))) (vCons (vC (.py (.str "a2a"))) (vCons (vC (.py (.str "a80"))) (vCons (vC (.py (.str "a81"))) (vCons (vC (.py (.str "a79s"))) (vCons (vC (.py (.str "a79s2"))) (vCons (vC (.py (.str "a99"))) (vCons (vC (.py (.str "a100"))) (vCons (vC (.py (.str "s40a40"))) (vCons (vC (.py (.str "s41a40"))) (vCons (vC (.py (.str "as-"))) vNil)))))))))))))))
  (sSeq (sSet 7 (vBin gAdd (vBor 7) (vLst (vCons (vC (.py (.str "--"))) (vCons (vC (.py (.str "a s"))) (vCons (vC (.py (.str "2a"))) (vCons (vCall S_x_spaced (vCons (vBin gMulA (vLst (vCons (vC (.py (.int 0))) vNil)) (vC (.py (.int 41)))) vNil)) (vCons (vCall S_x_spaced (vCons (vBin gMulA (vLst (vCons (vC (.py (.int 0))) vNil)) (vC (.py (.int 40)))) vNil)) (vCons (vC (.py (.str "none none"))) (vCons (vC (.py (.str "-1"))) vNil))))))))))
  (sSeq (sSet 7 (vBin gAdd (vBor 7) (vLst (vCons (vBin gMulA (vC (.py (.str "1"))) (vC (.py (.int 2500)))) (vCons (vBin gAdd (vC (.py (.str "a"))) (vBin gMulA (vC (.py (.str "1"))) (vC (.py (.int 300))))) (vCons (vC (.py (.str "A"))) (vCons (vC (.py (.str "a2\n"))) vNil)))))))
  (restB S_law_changed S_law_pick S_law_row_of S_law_persons_of S_law_word_of S_law_found)))))))))
  (sRet (vC (.py (.bool true)))))
 := rfl
theorem run3 {gs : List Int} {v : PyData} (gl : gs.length ≤ 40) (hv : ∀ z, v = .str z → z.length ≤ 10000) {s0 s1 s2 s4 s5 s6 s7 s8 s10 s11 s12 : VL.Slot} {Q2 : D → Prop} (q2 : Q2 (.py (.list [foundD 0 gs.length v, foundD 1 gs.length v, foundD 2 gs.length v]))) :
    lcGo (tgName 13) wYes (vCall S_law_found (vCons (vVar 13) (vCons (vVar 3) (vCons (vVar 9) vNil)))) Q2 ((rangeP 0 3).map D.py) [] [s0, s1, s2, .shr (.py (.tuple (gs.map PyData.int))), s4, s5, s6, s7, s8, .shr (.py v), s10, s11, s12, .un] := by
  rw [rangeP_eq]
  refine lc_encM (encR 0) (fun k => foundD k gs.length v) (fun i x hx kk k1 => ?_) (by simp) q2
  obtain ⟨rfl, hx⟩ := range_get hx
  have hx : x < 3 := hx
  simp [lcStep, encR, -S_law_found]
  refine ⟨x, gs.map PyData.int, v, rfl, by simp; omega, hv, hx, ?_⟩
  rw [List.length_map]
  exact k1
theorem restB_ok {r : Addr} {gs : List Int} {a c d : VL.Slot} {g h k : VL.Slot} {zs : List Str} {De : VEnds} (gl : gs.length ≤ 40) (hz : ∀ z ∈ zs, z.length ≤ 5000) (h0 : ∃ z ∈ zs, z.length < 900) (hn : zs.length ≤ 100)
    (ne : ∀ ρ, (∃ g h k, ρ = [.un, .shr (.raw (.ref r)), a, .shr (.py (.tuple (gs.map PyData.int))), .shr (.py (.int (gs.length : Nat))), c, d, .shr (.py (.list (zs.map PyData.str))), g, h, k, .un, .un, .un]) → De.nx ρ) :
    restB (S_law_changed r) (svPick r) S_law_row_of S_law_persons_of S_law_word_of S_law_found [.un, .shr (.raw (.ref r)), a, .shr (.py (.tuple (gs.map PyData.int))), .shr (.py (.int (gs.length : Nat))), c, d, .shr (.py (.list (zs.map PyData.str))), g, h, k, .un, .un, .un] De := by
  have slen2 : ∀ z : Str, (sl z).length = z.length := fun z => slen z
  simp [restB, -forGo, -lcGo, -S_law_changed, -S_law_row_of, -S_law_persons_of, -S_law_word_of, -S_law_found]
  refine lc_encF' PyData.str (fun z => decide (z.length < 900)) PyData.str (fun i z hz2 kk k1 k2 => ?_) (by omega) ?_
  · simp [lcStep]
    have := hz z (List.mem_of_getElem? hz2)
    refine ⟨by omega, ?_⟩
    by_cases hlt : z.length < 900
    · rw [if_pos (by omega)]
      exact k1 (by simpa using hlt)
    · rw [if_neg (by omega)]
      exact k2 (by simpa using hlt)
  have fl := List.length_filter_le (fun z : Str => decide (z.length < 900)) zs
  obtain ⟨z0, hz0, hz1⟩ := h0
  have fne : zs.filter (fun z : Str => decide (z.length < 900)) ≠ [] := List.ne_nil_of_mem (List.mem_filter.mpr ⟨hz0, by simpa using hz1⟩)
  refine ⟨by decide, lc_mem (fun p => ∃ z, p = .str z ∧ z.length ≤ 10000) (fun x hx kk hk => ?_) (by simp) fun ps hl hps => ?_⟩
  · obtain ⟨j, hj, rfl⟩ := mem_rangeP hx
    simp [lcStep, -S_law_changed]
    refine ⟨⟨z0, hz0, hz1⟩, by omega, fun y hy => ?_⟩
    obtain ⟨z, hzm, rfl⟩ := List.mem_map.mp hy
    have hzl : z.length < 900 := by simpa using (List.mem_filter.mp hzm).2
    refine ⟨sl z, by rw [mkS_sl], by rw [slen2]; omega, fun u hu => hk _ ⟨_, rfl, by simp; omega⟩⟩
  have hl18 : ps.length = 18 := by simpa using hl
  simp [-forGo]
  refine ⟨by omega, ?_⟩
  have exs : List.map (D.py ∘ PyData.str) zs ++ List.map D.py ps = (zs.map PyData.str ++ ps).map D.py := by simp
  have hall : ∀ p ∈ zs.map PyData.str ++ ps, ∃ z, p = .str z ∧ z.length ≤ 10000 := fun p hp => by
    rcases List.mem_append.mp hp with h | h
    · obtain ⟨z, hz2, rfl⟩ := List.mem_map.mp h
      exact ⟨z, rfl, by have := hz z hz2; omega⟩
    · exact hps p h
  rw [exs]
  generalize zs.map PyData.str ++ ps = vs at hall
  have found3 : ∀ v, (∀ z, v = .str z → z.length ≤ 10000) → ReprOk (.list [foundD 0 gs.length v, foundD 1 gs.length v, foundD 2 gs.length v]) := fun v _ => by
    refine ((Sw.lst (w := 10000) (d := 20) (n := 3) (fun x hx => ?_) (by simp)).mono (w' := 100000) (d' := 30) (by omega) (by omega)).repr
    simp only [List.mem_cons, List.not_mem_nil, or_false] at hx
    rcases hx with rfl | rfl | rfl <;> exact foundD_sw (by omega)
  refine for_inv (fun _ ρ => ∃ h k, ρ = [.un, .shr (.raw (.ref r)), a, .shr (.py (.tuple (gs.map PyData.int))), .shr (.py (.int (gs.length : Nat))), c, d, .shr (.py (.list (zs.map PyData.str))), .shr (.py (.list ((zs.filter fun z => decide (z.length < 900)).map PyData.str))), h, k, .un, .un, .un]) (fun t v ρ hv iv nx2 ct2 hn2 => ?_) (fun ρ iv => ?_) ⟨_, _, rfl⟩
  · obtain ⟨h, k, rfl⟩ := iv
    obtain ⟨z, rfl, hzl⟩ := hall v (List.mem_of_getElem? hv)
    have hv2 : ∀ z', PyData.str z = .str z' → z'.length ≤ 10000 := fun z' e => by cases e; exact hzl
    have rk := found3 _ hv2
    have nx3 := fun h k => (hn2 _ ⟨h, k, rfl⟩).1
    simp [-lcGo, -S_law_row_of, -S_law_persons_of, -S_law_word_of, -S_law_found]
    refine ⟨z, rfl, by omega, gs.length, z, rfl, by omega, sl z, by rw [mkS_sl], by rw [slen2]; omega, ?_⟩
    have same : ∀ (x y : PyData) (A B : Prop), x = y → B → (if (!(PyData.str x.shown).eqv (PyData.str y.shown)) = true then A else B) := fun x y A B e h => by
      subst e
      simpa using h
    refine ⟨by simp, by omega, ?_⟩
    split
    · exact ⟨by decide, run3 gl hv2 ⟨rk, rk, rfl, rfl, .inl (by simp), same _ _ _ _ rfl (nx3 _ _)⟩⟩
    · exact nx3 _ _
  · obtain ⟨h, k, rfl⟩ := iv
    refine ⟨_, rfl, _, rfl, rfl, by simp, by simp, fun y hy => ⟨_, rfl, by simp, ?_⟩⟩
    have nstr : ∀ v ∈ [PyData.none, .int 5, .bool true, .tuple (gs.map PyData.int), .list [.str (mkS [97])], .dict [], y], ∀ z, v ≠ .str z := fun v hv z e => by
      subst e
      simp only [List.mem_cons, List.not_mem_nil, or_false] at hv hy
      rcases hv with h | h | h | h | h | h | h
      · cases h
      · cases h
      · cases h
      · cases h
      · cases h
      · cases h
      · subst h
        rcases hy with h | h | h | h | h <;> cases h
    refine for_inv (fun _ ρ => ∃ h k, ρ = [.un, .shr (.raw (.ref r)), a, .shr (.py (.tuple (gs.map PyData.int))), .shr (.py (.int (gs.length : Nat))), c, d, .shr (.py (.list (zs.map PyData.str))), .shr (.py (.list ((zs.filter fun z => decide (z.length < 900)).map PyData.str))), h, k, .un, .un, .un]) (fun t v ρ hv iv nx2 ct2 hn2 => ?_) (fun ρ iv => ?_) ⟨_, _, rfl⟩
    · obtain ⟨h, k, rfl⟩ := iv
      have hv3 := nstr v (List.mem_of_getElem? hv)
      have nx3 := fun h k => (hn2 _ ⟨h, k, rfl⟩).1
      simp [-lcGo, -S_law_found]
      refine ⟨by decide, run3 gl (fun z e => absurd e (hv3 z)) ?_⟩
      rw [foundD_no hv3, foundD_no hv3, foundD_no hv3]
      have sh : (PyData.list [.list [.none], .list [.none], .list [.none]]).shown = Str.ofString "[[None], [None], [None]]" := by decide +kernel
      have rk : ReprOk (.list [.list [.none], .list [.none], .list [.none]]) := by
        have := found3 .none (fun z e => by cases e)
        exact this
      simp [sh]
      exact ⟨rk, nx3 _ _⟩
    · obtain ⟨h, k, rfl⟩ := iv
      exact ne _ ⟨_, _, _, rfl⟩
theorem l_law (r : Addr) : t_law (S_law_drawn r) (S_law_word r) (svTake r) S_x_spaced S_law_shortened (S_law_changed r) (svPick r) S_law_row_of S_law_persons_of S_law_word_of S_law_found (envBag 14 1 r) (fin isTrue' noE) := by
  have e0 : envBag 14 1 r = [.un, .shr (.raw (.ref r)), .un, .un, .un, .un, .un, .un, .un, .un, .un, .un, .un, .un] := rfl
  rw [e0]
  rw [t_law_eq]
  simp only [sSeq, sFor, iR1, vCons, vC, vNil, asR1]
  refine ⟨by decide, for_enc (encR 0) (fun _ ρ => ∃ a b c d e f g h i, ρ = [.un, .shr (.raw (.ref r)), a, b, c, d, e, f, g, h, i, .un, .un, .un]) ⟨_, _, _, _, _, _, _, _, _, rfl⟩ (fun i XX ρ hx iv nx ct hn => ?_) (fun ρ iv => ?_)⟩
  · obtain ⟨a, b, c, d, e, f, g, h, k, rfl⟩ := iv
    obtain ⟨rfl, hx⟩ := range_get hx
    have hd : ∃ m : Int, atI [PyData.int 40, PyData.int 12, PyData.int 3] (XX : Int) = some (.int m) ∧ 1 ≤ m ∧ m ≤ 40 := by
      have : XX = 0 ∨ XX = 1 ∨ XX = 2 := by have : XX < 3 := hx; omega
      rcases this with rfl | rfl | rfl
      · exact ⟨40, rfl, by omega, by omega⟩
      · exact ⟨12, rfl, by omega, by omega⟩
      · exact ⟨3, rfl, by omega, by omega⟩
    obtain ⟨m, hm, m0, m1⟩ := hd
    simp [-forGo, -lcGo, hm, -S_law_word, -S_x_spaced, -S_law_shortened, -S_law_changed, -S_law_row_of, -S_law_persons_of, -S_law_word_of, -S_law_found]
    refine ⟨m0, m1, fun gs g0 g1 g2 => ?_⟩
    intro x x0 x1
    refine ⟨rfl, by omega, by omega, x0, x1, fun w hw => ?_⟩
    have lw : w.length = 2 * gs.length := by simpa using hw.len
    have lt := goodW_let hw
    have gp : 0 < gs.length := List.length_pos_iff.mpr g0
    intro y y0 y1
    refine ⟨by unfold small62; omega, lc_mem (fun p => ∃ i : Int, p = .int i ∧ 0 ≤ i ∧ i < 10 ^ 10) (fun d hd k hk => ?_) (by simp; omega) fun ps hl hps => ?_⟩
    · obtain ⟨j, hj, rfl⟩ := mem_rangeP hd
      simp [lcStep]
      exact ⟨by omega, by omega, fun x x0 x1 => hk _ ⟨x, rfl, by omega, by omega⟩⟩
    refine SPI (.inl rfl) (by simp at hl ⊢; omega) (fun q hq => hps q (by simpa using hq)) fun z1 hz1 => ?_
    refine SPI (.inr rfl) (by simp; omega) (fun q hq => ?_) fun z2 hz2 => ?_
    · obtain ⟨g, hg, rfl⟩ := List.mem_map.mp hq
      have := g2 g hg
      exact ⟨g, rfl, by omega, by omega⟩
    have sl := shortL_ok (w := w) (by omega) lt
    refine ⟨w, rfl, by omega, ?_⟩
    simp [-forGo, -lcGo, -S_law_word, -S_x_spaced, -S_law_shortened, -S_law_changed, -S_law_row_of, -S_law_persons_of, -S_law_word_of, -S_law_found]
    have zr : ∀ (n : Nat) (x : PyData), x ∈ List.replicate n (PyData.int 0) → ∃ i : Int, x = .int i ∧ 0 ≤ i ∧ i < 10 ^ 10 := fun n x hx => ⟨0, (List.mem_replicate.mp hx).2, by omega, by omega⟩
    refine SPI (xs := List.replicate 41 (PyData.int 0)) (.inl rfl) (by simp) (zr _) fun z3 hz3 => ?_
    refine SPI (xs := List.replicate 40 (PyData.int 0)) (.inl rfl) (by simp) (zr _) fun z4 hz4 => ?_
    have l1 : (Str.ofString "1").length = 1 := by decide +kernel
    have l3 : (repS (Str.ofString "1") 300).length = 300 := by decide +kernel
    refine ⟨_, rfl, by simp, by simp, by omega, by omega, by omega, by simp, ?_⟩
    refine restB_ok (zs := [z2, z1, mkS (shortL w), Str.ofString "none", mkS [], Str.ofString " ", Str.ofString "-", Str.ofString "0", mkS [97], mkS [115], Str.ofString "a1", Str.ofString "a2", Str.ofString "a02", Str.ofString "a0", Str.ofString "aa", Str.ofString "a2a", Str.ofString "a80", Str.ofString "a81", Str.ofString "a79s", Str.ofString "a79s2", Str.ofString "a99", Str.ofString "a100", Str.ofString "s40a40", Str.ofString "s41a40", Str.ofString "as-", Str.ofString "--", Str.ofString "a s", Str.ofString "2a", z3, z4, Str.ofString "none none", Str.ofString "-1", repS (Str.ofString "1") 2500, mkS [97] ++ repS (Str.ofString "1") 300, Str.ofString "A", Str.ofString "a2\n"]) (by omega) (fun z hz => ?_) ⟨mkS [97], by simp, by decide +kernel⟩ (by simp) fun ρ hρ => ?_
    · simp only [List.mem_cons, List.not_mem_nil, or_false] at hz
      rcases hz with rfl | rfl | rfl | rfl | rfl | rfl | rfl | rfl | rfl | rfl | rfl | rfl | rfl | rfl | rfl | rfl | rfl | rfl | rfl | rfl | rfl | rfl | rfl | rfl | rfl | rfl | rfl | rfl | rfl | rfl | rfl | rfl | rfl | rfl | rfl | rfl
      · assumption
      · assumption
      · simp; omega
      · decide +kernel
      · decide +kernel
      · decide +kernel
      · decide +kernel
      · decide +kernel
      · decide +kernel
      · decide +kernel
      · decide +kernel
      · decide +kernel
      · decide +kernel
      · decide +kernel
      · decide +kernel
      · decide +kernel
      · decide +kernel
      · decide +kernel
      · decide +kernel
      · decide +kernel
      · decide +kernel
      · decide +kernel
      · decide +kernel
      · decide +kernel
      · decide +kernel
      · decide +kernel
      · decide +kernel
      · decide +kernel
      · assumption
      · assumption
      · decide +kernel
      · decide +kernel
      · decide +kernel
      · decide +kernel
      · decide +kernel
      · decide +kernel
    · obtain ⟨g, h, k, rfl⟩ := hρ
      exact (hn _ ⟨_, _, _, _, _, _, _, _, _, rfl⟩).1
  · obtain ⟨a, b, c, d, e, f, g, h, i, rfl⟩ := iv
    simp
end LawP
set_option Elab.async false
set_option linter.all false
set_option maxRecDepth 100000
set_option maxHeartbeats 4000000
namespace LawP
open PySem PySem.Spec PyProof.Rows L2 VL
abbrev topS (i : Nat) : Stmt := PySem.Challenge.pw_matesline_k72_other_texts_refused.main.body.getD i (.Pass ⟨0, 0, 0, 0⟩)
section
variable {P : Program} {w : World} {K : PySem.W.Frag} {mg : Str → Option Value} {base : Heap} {b : Bg} {f : Addr} {fd : FuncData}
abbrev s_BadText : Stmt := clsDef (topS 5) 0
theorem sc_BadText : FnScope ["self", "index"] ["self", "index"] (defScope s_BadText) := ⟨rfl, rfl, rfl, by decide +kernel, rfl, by decide +kernel, by decide +kernel⟩
theorem wi_BadText {fa : Addr} (F : Fun K "__init__" "BadText.__init__" s_BadText fa fd) : FnOk P w K mg base (L2.CX P w) 1 fa fd ["self", "index"] (spInit K "index") := ok_init F sc_BadText rfl rfl rfl (by decide) (by decide)
abbrev s_law_drawn : Stmt := topS 30
abbrev N_law_drawn : List Str := ["_law_bag", "_law_most", "_law_many", "_law_way", "_law_kinds", "_law_names", "_law_k"]
theorem sc_law_drawn : FnScope N_law_drawn ["_law_bag", "_law_most"] (defScope s_law_drawn) := ⟨rfl, rfl, rfl, by decide +kernel, rfl, by decide +kernel, by decide +kernel⟩
theorem w_law_drawn {S : SV} {S_law_take : SV} {S_law_pick : SV} (F : Fun K "_law_drawn" "_law_drawn" s_law_drawn f fd) (F_law_take : Cal P w K mg base b 1 "_law_take" ["_law_bag", "_law_many"] S_law_take) (F_law_pick : Cal P w K mg base b 2 "_law_pick" ["_law_bag", "_law_items"] S_law_pick) (n_range : mg "range" = none) (n_tuple : mg "tuple" = none) (hlen : ∀ ds Q E, S ds Q E → ds.length = 2)
    (law : ∀ ds Q E, S ds Q E → t_law_drawn S_law_take S_law_pick (envOf 7 ds) (fin Q E)) : FnOk P w K mg base (L2.CX P w) 3 f fd ["_law_bag", "_law_most"] (spV b S) := by
  refine fnV F sc_law_drawn hlen (by decide) (fun cdv A outer s H E hr tk => ?_) law
  have hu := hr.units
  exact (vs_cons (vs_par2 (i := 2) (j := 3) rfl sc_law_drawn.nd rfl rfl (by decide) rfl rfl (vm_sh (ve_add (VE.toX ve_int) (VE.toX (ve_cal F_law_take hr tk (by rfl) (va_cons (ve_var (pv 0)) (va_cons (ve_var (pv 1)) va_nil))))) (vm_sh (ve_cal F_law_take hr tk (by rfl) (va_cons (ve_var (pv 0)) (va_cons ve_int va_nil))) vm_nil)) (by rfl))
      (vs_cons (vs_asg (i := 4) sc_law_drawn.nd rfl (.inr rfl) (ve_ix (VN.toX (vn_lst (va_cons ve_int (va_cons ve_int (va_cons (ve_add (VE.toX ve_int) (VE.toX (ve_fdiv (vx_var (pv 2)) (VE.toX ve_int)))) (va_cons (ve_var (pv 2)) (va_cons ve_int (va_cons ve_int va_nil)))))))) (vx_var (pv 3))))
      (vs_cons (vs_asg (i := 5) sc_law_drawn.nd rfl (.inr rfl) (VN.toE (vn_lc (own := [("_law_k", 6)]) rfl sc_law_drawn.nd (vib_range1 (by rfl) n_range (vxs_cons (vx_var (pv 4)) vxs_nil)) (blkOk_by (N := N_law_drawn) (sc := defScope s_law_drawn) (by decide +kernel)) (by decide) (fun _ _ _ _ _ => (vg_name (i := 6) sc_law_drawn.nd rfl (.inl rfl))) (fun _ _ _ _ _ => vts_nil) (fun _ _ _ _ _ => (ve_cal F_law_pick hr takes0 (by rfl) (va_cons (ve_var (pv 0)) (va_cons (VN.toE (vn_lst (va_cons (ve_var (pv 6)) (va_cons (ve_sub (VE.toX (ve_pow (VE.toX ve_int) (VE.toX ve_int))) (vx_var (pv 6))) (va_cons (ve_add (VE.toX (ve_mulA (VE.toX ve_int) (vx_var (pv 6)))) (VE.toX (ve_cal F_law_take hr takes0 (by rfl) (va_cons (ve_var (pv 0)) (va_cons ve_int va_nil))))) va_nil))))) va_nil)))))))
      (vs_cons (vs_if (vt_eq hu (vx_var (pv 3)) (VE.toX ve_int))
      (vs_one (vs_ret (ve_tupleC (by rfl) n_tuple (vxs_cons (VN.toX (vn_lc (own := [("_law_k", 6)]) rfl sc_law_drawn.nd (vib_range1 (by rfl) n_range (vxs_cons (vx_var (pv 2)) vxs_nil)) (blkOk_by (N := N_law_drawn) (sc := defScope s_law_drawn) (by decide +kernel)) (by decide) (fun _ _ _ _ _ => (vg_name (i := 6) sc_law_drawn.nd rfl (.inl rfl))) (fun _ _ _ _ _ => vts_nil) (fun _ _ _ _ _ => (ve_ix (vx_var (pv 5)) (VE.toX (ve_mod (VE.toX (ve_fdiv (vx_var (pv 6)) (VE.toX ve_int))) (vx_var (pv 4)))))))) vxs_nil))))
      vs_nil)
      (vs_one (vs_ret (ve_tupleC (by rfl) n_tuple (vxs_cons (VN.toX (vn_lc (own := [("_law_k", 6)]) rfl sc_law_drawn.nd (vib_range1 (by rfl) n_range (vxs_cons (vx_var (pv 2)) vxs_nil)) (blkOk_by (N := N_law_drawn) (sc := defScope s_law_drawn) (by decide +kernel)) (by decide) (fun _ _ _ _ _ => (vg_name (i := 6) sc_law_drawn.nd rfl (.inl rfl))) (fun _ _ _ _ _ => vts_nil) (fun _ _ _ _ _ => (ve_ix (vx_var (pv 5)) (VE.toX (ve_cal F_law_take hr takes0 (by rfl) (va_cons (ve_var (pv 0)) (va_cons (ve_var (pv 4)) va_nil)))))))) vxs_nil))))))))
abbrev s_x_spaced : Stmt := topS 33
abbrev N_x_spaced : List Str := ["_law_items", "_law_item"]
theorem sc_x_spaced : FnScope N_x_spaced ["_law_items"] (defScope s_x_spaced) := ⟨rfl, rfl, rfl, by decide +kernel, rfl, by decide +kernel, by decide +kernel⟩
theorem w_x_spaced {S : SV} (F : Fun K "_law_spaced" "_law_spaced" s_x_spaced f fd) (n_str : mg "str" = none) (hlen : ∀ ds Q E, S ds Q E → ds.length = 1)
    (law : ∀ ds Q E, S ds Q E → t_x_spaced (envOf 2 ds) (fin Q E)) : FnOk P w K mg base (L2.CX P w) 1 f fd ["_law_items"] (spV b S) := by
  refine fnV F sc_x_spaced hlen (by decide) (fun cdv A outer s H E hr tk => ?_) law
  exact (vs_one (vs_ret (ve_mth mx_join (VE.toX ve_str) (vxs_cons (VN.toX (vn_lc (own := [("_law_item", 1)]) rfl sc_x_spaced.nd (vib_src (vx_var (pv 0))) (blkOk_by (N := N_x_spaced) (sc := defScope s_x_spaced) (by decide +kernel)) (by decide) (fun _ _ _ _ _ => (vg_name (i := 1) sc_x_spaced.nd rfl (.inl rfl))) (fun _ _ _ _ _ => vts_nil) (fun _ _ _ _ _ => (ve_strC (by rfl) n_str (vxs_cons (vx_var (pv 1)) vxs_nil))))) vxs_nil))))
abbrev s_law_word : Stmt := topS 31
abbrev N_law_word : List Str := ["_law_bag", "_law_many", "_law_way", "_law_letters", "_law_here", "_law_left", "_law_serves"]
theorem sc_law_word : FnScope N_law_word ["_law_bag", "_law_many", "_law_way"] (defScope s_law_word) := ⟨rfl, rfl, rfl, by decide +kernel, rfl, by decide +kernel, by decide +kernel⟩
theorem w_law_word {S : SV} {S_law_take : SV} (F : Fun K "_law_word" "_law_word" s_law_word f fd) (F_law_take : Cal P w K mg base b 1 "_law_take" ["_law_bag", "_law_many"] S_law_take) (n_int : mg "int" = none) (hlen : ∀ ds Q E, S ds Q E → ds.length = 3)
    (law : ∀ ds Q E, S ds Q E → t_law_word S_law_take (envOf 7 ds) (fin Q E)) : FnOk P w K mg base (L2.CX P w) 2 f fd ["_law_bag", "_law_many", "_law_way"] (spV b S) := by
  refine fnV F sc_law_word hlen (by decide) (fun cdv A outer s H E hr tk => ?_) law
  have hu := hr.units
  exact (vs_cons (vs_par3 (i := 3) (j := 4) (k := 5) rfl sc_law_word.nd rfl rfl rfl (by decide) (by decide) (by decide) rfl rfl rfl (vm_nw (vn_lst va_nil) (vm_sh ve_int (vm_sh (ve_var (pv 1)) vm_nil))) (by rfl))
      (vs_cons (vs_while (passes_of rfl) (vt_gt (VE.toX (ve_add (vx_var (pv 5)) (vx_var (pv 4)))) (VE.toX ve_int))
      (vs_cons (vs_asg (i := 6) sc_law_word.nd rfl (.inl rfl) (ve_ix (VN.toX (vn_lst (va_cons (ve_cal F_law_take hr tk (by rfl) (va_cons (ve_var (pv 0)) (va_cons ve_int va_nil))) (va_cons ve_int (va_cons ve_int (va_cons (ve_intC (by rfl) n_int (vxs_cons (VE.toX (ve_gt (VE.toX (ve_cal F_law_take hr tk (by rfl) (va_cons (ve_var (pv 0)) (va_cons ve_int va_nil)))) (VE.toX ve_int))) vxs_nil)) (va_cons (ve_intC (by rfl) n_int (vxs_cons (VE.toX (ve_gt (vx_var (pv 4)) (VE.toX ve_int))) vxs_nil)) va_nil))))))) (vx_var (pv 2))))
      (vs_one (vs_if (VWe.pt (vw_or (vt_eq hu (vx_var (pv 5)) (VE.toX ve_int)) (vw_or1 (VWe.pt (vw_and (vt_gt (vx_var (pv 4)) (VE.toX ve_int)) (vw_and1 (vt_eq hu (vx_var (pv 6)) (VE.toX ve_int))))))))
      (vs_cons (vs_app (pv 3) (va_cons ve_str va_nil))
      (vs_one (vs_asg (i := 4) sc_law_word.nd rfl (.inl rfl) (ve_sub (vx_var (pv 4)) (VE.toX ve_int)))))
      (vs_cons (vs_app (pv 3) (va_cons ve_str va_nil))
      (vs_one (vs_par2 (i := 4) (j := 5) rfl sc_law_word.nd rfl rfl (by decide) rfl rfl (vm_sh (ve_add (vx_var (pv 4)) (VE.toX ve_int)) (vm_sh (ve_sub (vx_var (pv 5)) (VE.toX ve_int)) vm_nil)) (by rfl))))))))
      (vs_one (vs_ret (ve_mth mx_join (VE.toX ve_str) (vxs_cons (vx_var (pv 3)) vxs_nil))))))
abbrev s_law_shortened : Stmt := topS 34
abbrev N_law_shortened : List Str := ["_law_word_here", "_law_found_here", "_law_count", "_law_k"]
theorem sc_law_shortened : FnScope N_law_shortened ["_law_word_here"] (defScope s_law_shortened) := ⟨rfl, rfl, rfl, by decide +kernel, rfl, by decide +kernel, by decide +kernel⟩
theorem w_law_shortened {S : SV} (F : Fun K "_law_shortened" "_law_shortened" s_law_shortened f fd) (n_range : mg "range" = none) (n_len : mg "len" = none) (n_str : mg "str" = none) (hlen : ∀ ds Q E, S ds Q E → ds.length = 1)
    (law : ∀ ds Q E, S ds Q E → t_law_shortened (envOf 4 ds) (fin Q E)) : FnOk P w K mg base (L2.CX P w) 1 f fd ["_law_word_here"] (spV b S) := by
  refine fnV F sc_law_shortened hlen (by decide) (fun cdv A outer s H E hr tk => ?_) law
  have hu := hr.units
  exact (vs_cons (vs_parT (is := [1, 2]) rfl (pgs_cons (pg_name (i := 1) sc_law_shortened.nd rfl (.inl rfl)) (pgs_cons (pg_name (i := 2) sc_law_shortened.nd rfl (.inl rfl)) pgs_nil)) (vm_sh ve_str (vm_sh ve_int vm_nil)))
      (vs_cons (vs_for (passes_of rfl) rfl (vi_range1 (by rfl) n_range (vxs_cons (VE.toX (ve_len (by rfl) n_len (vxs_cons (vx_var (pv 0)) vxs_nil))) vxs_nil)) (vg_name (i := 3) sc_law_shortened.nd rfl (.inl rfl))
      (vs_cons (vs_asg (i := 2) sc_law_shortened.nd rfl (.inl rfl) (ve_add (vx_var (pv 2)) (VE.toX ve_int)))
      (vs_one (vs_if (VWe.pt (vw_or (vt_eq hu (VE.toX (ve_add (vx_var (pv 3)) (VE.toX ve_int))) (VE.toX (ve_len (by rfl) n_len (vxs_cons (vx_var (pv 0)) vxs_nil)))) (vw_or1 (vt_ne hu (VE.toX (ve_ix (vx_var (pv 0)) (VE.toX (ve_add (vx_var (pv 3)) (VE.toX ve_int))))) (VE.toX (ve_ix (vx_var (pv 0)) (vx_var (pv 3))))))))
      (vs_cons (vs_asg (i := 1) sc_law_shortened.nd rfl (.inl rfl) (ve_add (VE.toX (ve_add (vx_var (pv 1)) (VE.toX (ve_ix (vx_var (pv 0)) (vx_var (pv 3)))))) (VE.toX (ve_if (vt_gt (vx_var (pv 2)) (VE.toX ve_int)) (ve_strC (by rfl) n_str (vxs_cons (vx_var (pv 2)) vxs_nil)) ve_str))))
      (vs_one (vs_asg (i := 2) sc_law_shortened.nd rfl (.inl rfl) ve_int)))
      vs_nil))))
      (vs_one (vs_ret (ve_if (vt_ne hu (vx_var (pv 0)) (VE.toX ve_str)) (ve_var (pv 1)) ve_str)))))
abbrev s_law_changed : Stmt := topS 39
abbrev N_law_changed : List Str := ["_law_bag", "_law_text", "_law_at", "_law_words", "_law_spot", "_law_sign", "_law_some", "_law_part", "_law_texts"]
theorem sc_law_changed : FnScope N_law_changed ["_law_bag", "_law_text"] (defScope s_law_changed) := ⟨rfl, rfl, rfl, by decide +kernel, rfl, by decide +kernel, by decide +kernel⟩
theorem w_law_changed {S : SV} {S_law_take : SV} {S_law_pick : SV} {S_x_spaced : SV} (F : Fun K "_law_changed" "_law_changed" s_law_changed f fd) (F_law_take : Cal P w K mg base b 1 "_law_take" ["_law_bag", "_law_many"] S_law_take) (F_law_pick : Cal P w K mg base b 2 "_law_pick" ["_law_bag", "_law_items"] S_law_pick) (F_x_spaced : Cal P w K mg base b 1 "_law_spaced" ["_law_items"] S_x_spaced) (n_len : mg "len" = none) (hlen : ∀ ds Q E, S ds Q E → ds.length = 2)
    (law : ∀ ds Q E, S ds Q E → t_law_changed S_law_take S_law_pick S_x_spaced (envOf 9 ds) (fin Q E)) : FnOk P w K mg base (L2.CX P w) 3 f fd ["_law_bag", "_law_text"] (spV b S) := by
  refine fnV F sc_law_changed hlen (by decide) (fun cdv A outer s H E hr tk => ?_) law
  exact (vs_cons (vs_par2 (i := 2) (j := 3) rfl sc_law_changed.nd rfl rfl (by decide) rfl rfl (vm_sh (ve_cal F_law_take hr tk (by rfl) (va_cons (ve_var (pv 0)) (va_cons (ve_add (VE.toX (ve_len (by rfl) n_len (vxs_cons (vx_var (pv 1)) vxs_nil))) (VE.toX ve_int)) va_nil))) (vm_sh (VN.toE (vn_mth mx_split (vx_var (pv 1)) (vxs_cons (VE.toX ve_str) vxs_nil))) vm_nil)) (by rfl))
      (vs_cons (vs_par2 (i := 4) (j := 5) rfl sc_law_changed.nd rfl rfl (by decide) rfl rfl (vm_sh (ve_cal F_law_take hr tk (by rfl) (va_cons (ve_var (pv 0)) (va_cons (ve_add (VE.toX (ve_len (by rfl) n_len (vxs_cons (vx_var (pv 3)) vxs_nil))) (VE.toX ve_int)) va_nil))) (vm_sh (ve_cal F_law_pick hr tk (by rfl) (va_cons (ve_var (pv 0)) (va_cons (VN.toE (vn_lst (va_cons ve_str (va_cons ve_str (va_cons ve_str (va_cons ve_str (va_cons ve_str (va_cons ve_str (va_cons ve_str (va_cons ve_str (va_cons ve_str (va_cons ve_str va_nil)))))))))))) va_nil))) vm_nil)) (by rfl))
      (vs_cons (vs_asg (i := 6) sc_law_changed.nd rfl (.inl rfl) (ve_add (vx_var (pv 3)) (VN.toX (vn_lst (va_cons ve_str (va_cons ve_str (va_cons ve_str (va_cons ve_str (va_cons ve_str (va_cons ve_str (va_cons ve_str (va_cons ve_str (va_cons ve_str (va_cons (ve_mulA (VE.toX ve_str) (VE.toX ve_int)) (va_cons (ve_mulA (VE.toX ve_str) (VE.toX ve_int)) (va_cons ve_str va_nil))))))))))))))))
      (vs_cons (vs_asg (i := 7) sc_law_changed.nd rfl (.inl rfl) (ve_cal F_law_pick hr tk (by rfl) (va_cons (ve_var (pv 0)) (va_cons (ve_var (pv 6)) va_nil))))
      (vs_cons (vs_asgN (i := 8) sc_law_changed.nd rfl (.inl rfl) (vn_lst (va_cons (ve_add (VE.toX (ve_add (VE.toX (ve_sl (vx_var (pv 1)) vo_no (vo_at (vx_var (pv 2))))) (vx_var (pv 5)))) (VE.toX (ve_sl (vx_var (pv 1)) (vo_at (vx_var (pv 2))) vo_no))) (va_cons (ve_add (VE.toX (ve_add (VE.toX (ve_sl (vx_var (pv 1)) vo_no (vo_at (vx_var (pv 2))))) (vx_var (pv 5)))) (VE.toX (ve_sl (vx_var (pv 1)) (vo_at (VE.toX (ve_add (vx_var (pv 2)) (VE.toX ve_int)))) vo_no))) (va_cons (ve_add (VE.toX (ve_sl (vx_var (pv 1)) vo_no (vo_at (vx_var (pv 2))))) (VE.toX (ve_sl (vx_var (pv 1)) (vo_at (VE.toX (ve_add (vx_var (pv 2)) (VE.toX ve_int)))) vo_no))) (va_cons (ve_add (vx_var (pv 1)) (VE.toX ve_str)) va_nil))))))
      (vs_cons (vs_app (pv 8) (va_cons (ve_cal F_x_spaced hr tk (by rfl) (va_cons (ve_add (VE.toX (ve_add (VE.toX (ve_sl (vx_var (pv 3)) vo_no (vo_at (vx_var (pv 4))))) (VN.toX (vn_lst (va_cons (ve_var (pv 7)) va_nil))))) (VE.toX (ve_sl (vx_var (pv 3)) (vo_at (vx_var (pv 4))) vo_no))) va_nil)) va_nil))
      (vs_cons (vs_app (pv 8) (va_cons (ve_cal F_x_spaced hr tk (by rfl) (va_cons (ve_add (VE.toX (ve_add (VE.toX (ve_sl (vx_var (pv 3)) vo_no (vo_at (vx_var (pv 4))))) (VN.toX (vn_lst (va_cons (ve_var (pv 7)) va_nil))))) (VE.toX (ve_sl (vx_var (pv 3)) (vo_at (VE.toX (ve_add (vx_var (pv 4)) (VE.toX ve_int)))) vo_no))) va_nil)) va_nil))
      (vs_one (vs_ret (ve_cal F_law_pick hr tk (by rfl) (va_cons (ve_var (pv 0)) (va_cons (ve_add (vx_var (pv 8)) (VN.toX (vn_lst (va_cons (ve_cal F_x_spaced hr tk (by rfl) (va_cons (ve_backA (vx_var (pv 3)) (vo_at (VE.toX (ve_neg (VE.toX ve_int))))) va_nil)) (va_cons (ve_add (VE.toX (ve_add (vx_var (pv 1)) (VE.toX ve_str))) (vx_var (pv 1))) (va_cons (ve_add (vx_var (pv 1)) (vx_var (pv 1))) va_nil)))))) va_nil))))))))))))
abbrev s_law_number : Stmt := topS 32
abbrev N_law_number : List Str := ["_law_part", "_law_digits", "_law_sign"]
theorem sc_law_number : FnScope N_law_number ["_law_part"] (defScope s_law_number) := ⟨rfl, rfl, rfl, by decide +kernel, rfl, by decide +kernel, by decide +kernel⟩
theorem w_law_number {S : SV} (F : Fun K "_law_number" "_law_number" s_law_number f fd) (n_len : mg "len" = none) (n_int : mg "int" = none) (hlen : ∀ ds Q E, S ds Q E → ds.length = 1)
    (law : ∀ ds Q E, S ds Q E → t_law_number (envOf 3 ds) (fin Q E)) : FnOk P w K mg base (L2.CX P w) 1 f fd ["_law_part"] (spV b S) := by
  refine fnV F sc_law_number hlen (by decide) (fun cdv A outer s H E hr tk => ?_) law
  have hu := hr.units
  exact (vs_cons (vs_asg (i := 1) sc_law_number.nd rfl (.inl rfl) (ve_if (vt_eq hu (VE.toX (ve_sl (vx_var (pv 0)) vo_no (vo_at (VE.toX ve_int)))) (VE.toX ve_str)) (ve_sl (vx_var (pv 0)) (vo_at (VE.toX ve_int)) vo_no) (ve_var (pv 0))))
      (vs_cons (vs_if (VWe.pt (vw_or (vt_eq hu (vx_var (pv 1)) (VE.toX ve_str)) (vw_or (vt_gt (VE.toX (ve_len (by rfl) n_len (vxs_cons (vx_var (pv 1)) vxs_nil))) (VE.toX ve_int)) (vw_or1 (vt_ne hu (VN.toX (vn_lc (own := [("_law_sign", 2)]) rfl sc_law_number.nd (vib_src (vx_var (pv 1))) (blkOk_by (N := N_law_number) (sc := defScope s_law_number) (by decide +kernel)) (by decide) (fun _ _ _ _ _ => (vg_name (i := 2) sc_law_number.nd rfl (.inl rfl))) (fun _ _ _ _ _ => (vts_one (vt_notIn hu (vx_var (pv 2)) (VE.toX ve_str)))) (fun _ _ _ _ _ => (ve_var (pv 2))))) (VN.toX (vn_lst va_nil)))))))
      (vs_one (vs_ret ve_non))
      vs_nil)
      (vs_one (vs_ret (ve_if (VWe.pt (vw_and (vt_eq hu (VE.toX (ve_ix (vx_var (pv 1)) (VE.toX ve_int))) (VE.toX ve_str)) (vw_and1 (vt_ne hu (vx_var (pv 0)) (VE.toX ve_str))))) ve_non (ve_intC (by rfl) n_int (vxs_cons (vx_var (pv 0)) vxs_nil)))))))
abbrev s_law_row_of : Stmt := topS 35
abbrev N_law_row_of : List Str := ["_law_text", "_law_found_here", "_law_k", "_law_part", "_law_crew"]
theorem sc_law_row_of : FnScope N_law_row_of ["_law_text"] (defScope s_law_row_of) := ⟨rfl, rfl, rfl, by decide +kernel, rfl, by decide +kernel, by decide +kernel⟩
theorem w_law_row_of {S : SV} {S_law_number : SV} (F : Fun K "_law_row_of" "_law_row_of" s_law_row_of f fd) (F_law_number : Cal P w K mg base b 1 "_law_number" ["_law_part"] S_law_number) (n_enumerate : mg "enumerate" = none) (n_tuple : mg "tuple" = none) (hlen : ∀ ds Q E, S ds Q E → ds.length = 1)
    (law : ∀ ds Q E, S ds Q E → t_law_row_of S_law_number (envOf 5 ds) (fin Q E)) : FnOk P w K mg base (L2.CX P w) 2 f fd ["_law_text"] (spV b S) := by
  refine fnV F sc_law_row_of hlen (by decide) (fun cdv A outer s H E hr tk => ?_) law
  have hu := hr.units
  exact (vs_cons (vs_asgN (i := 1) sc_law_row_of.nd rfl (.inl rfl) (vn_lst va_nil))
      (vs_cons (vs_for (passes_of rfl) rfl (vi_enum (by rfl) n_enumerate (va_cons (VN.toE (vn_mth mx_split (vx_var (pv 0)) (vxs_cons (VE.toX ve_str) vxs_nil))) va_nil)) (vg_tup rfl (vgs_cons (vg_name (i := 2) sc_law_row_of.nd rfl (.inl rfl)) (vgs_cons (vg_name (i := 3) sc_law_row_of.nd rfl (.inl rfl)) vgs_nil)))
      (vs_cons (vs_asg (i := 4) sc_law_row_of.nd rfl (.inl rfl) (ve_cal F_law_number hr tk (by rfl) (va_cons (ve_var (pv 3)) va_nil)))
      (vs_cons (vs_if (VWe.pt (vw_or (vt_isN (vx_var (pv 4)) (VE.toX ve_non)) (vw_or (vt_not (vt_le2 (VE.toX ve_int) (vx_var (pv 4)) (VE.toX (ve_pow (VE.toX ve_int) (VE.toX ve_int))))) (vw_or1 (vt_eq hu (vx_var (pv 2)) (VE.toX ve_int))))))
      (vs_one (vs_ret (VN.toE (vn_lst (va_cons (ve_var (pv 2)) va_nil)))))
      vs_nil)
      (vs_one (vs_app (pv 1) (va_cons (ve_var (pv 4)) va_nil))))))
      (vs_one (vs_ret (ve_tupleC (by rfl) n_tuple (vxs_cons (vx_var (pv 1)) vxs_nil))))))
abbrev s_law_persons_of : Stmt := topS 36
abbrev N_law_persons_of : List Str := ["_law_many", "_law_text", "_law_found_here", "_law_k", "_law_part", "_law_person"]
theorem sc_law_persons_of : FnScope N_law_persons_of ["_law_many", "_law_text"] (defScope s_law_persons_of) := ⟨rfl, rfl, rfl, by decide +kernel, rfl, by decide +kernel, by decide +kernel⟩
theorem w_law_persons_of {S : SV} {S_law_number : SV} (F : Fun K "_law_persons_of" "_law_persons_of" s_law_persons_of f fd) (F_law_number : Cal P w K mg base b 1 "_law_number" ["_law_part"] S_law_number) (n_enumerate : mg "enumerate" = none) (n_tuple : mg "tuple" = none) (hlen : ∀ ds Q E, S ds Q E → ds.length = 2)
    (law : ∀ ds Q E, S ds Q E → t_law_persons_of S_law_number (envOf 6 ds) (fin Q E)) : FnOk P w K mg base (L2.CX P w) 2 f fd ["_law_many", "_law_text"] (spV b S) := by
  refine fnV F sc_law_persons_of hlen (by decide) (fun cdv A outer s H E hr tk => ?_) law
  have hu := hr.units
  exact (vs_cons (vs_asgN (i := 2) sc_law_persons_of.nd rfl (.inl rfl) (vn_lst va_nil))
      (vs_cons (vs_for (passes_of rfl) rfl (vi_enum (by rfl) n_enumerate (va_cons (ve_if (vt_eq hu (vx_var (pv 1)) (VE.toX ve_str)) (VN.toE (vn_lst va_nil)) (VN.toE (vn_mth mx_split (vx_var (pv 1)) (vxs_cons (VE.toX ve_str) vxs_nil)))) va_nil)) (vg_tup rfl (vgs_cons (vg_name (i := 3) sc_law_persons_of.nd rfl (.inl rfl)) (vgs_cons (vg_name (i := 4) sc_law_persons_of.nd rfl (.inl rfl)) vgs_nil)))
      (vs_cons (vs_asg (i := 5) sc_law_persons_of.nd rfl (.inl rfl) (ve_cal F_law_number hr tk (by rfl) (va_cons (ve_var (pv 4)) va_nil)))
      (vs_cons (vs_if (VWe.pt (vw_or (vt_isN (vx_var (pv 5)) (VE.toX ve_non)) (vw_or (vt_not (vt_leLt (VE.toX ve_int) (vx_var (pv 5)) (vx_var (pv 0)))) (vw_or1 (vt_eq hu (vx_var (pv 3)) (VE.toX ve_int))))))
      (vs_one (vs_ret (VN.toE (vn_lst (va_cons (ve_var (pv 3)) va_nil)))))
      vs_nil)
      (vs_one (vs_app (pv 2) (va_cons (ve_var (pv 5)) va_nil))))))
      (vs_one (vs_ret (ve_tupleC (by rfl) n_tuple (vxs_cons (vx_var (pv 2)) vxs_nil))))))
abbrev s_law_word_of : Stmt := topS 37
abbrev N_law_word_of : List Str := ["_law_text", "_law_word_here", "_law_at", "_law_end", "_law_length"]
theorem sc_law_word_of : FnScope N_law_word_of ["_law_text"] (defScope s_law_word_of) := ⟨rfl, rfl, rfl, by decide +kernel, rfl, by decide +kernel, by decide +kernel⟩
theorem w_law_word_of {S : SV} (F : Fun K "_law_word_of" "_law_word_of" s_law_word_of f fd) (n_len : mg "len" = none) (n_int : mg "int" = none) (hlen : ∀ ds Q E, S ds Q E → ds.length = 1)
    (law : ∀ ds Q E, S ds Q E → t_law_word_of (envOf 5 ds) (fin Q E)) : FnOk P w K mg base (L2.CX P w) 1 f fd ["_law_text"] (spV b S) := by
  refine fnV F sc_law_word_of hlen (by decide) (fun cdv A outer s H E hr tk => ?_) law
  have hu := hr.units
  exact (vs_cons (vs_if (vt_eq hu (vx_var (pv 0)) (VE.toX ve_str))
      (vs_one (vs_ret ve_str))
      vs_nil)
      (vs_cons (vs_parT (is := [1, 2]) rfl (pgs_cons (pg_name (i := 1) sc_law_word_of.nd rfl (.inl rfl)) (pgs_cons (pg_name (i := 2) sc_law_word_of.nd rfl (.inl rfl)) pgs_nil)) (vm_sh ve_str (vm_sh ve_int vm_nil)))
      (vs_cons (vs_while (passes_of rfl) (vt_lt (vx_var (pv 2)) (VE.toX (ve_len (by rfl) n_len (vxs_cons (vx_var (pv 0)) vxs_nil))))
      (vs_cons (vs_asg (i := 3) sc_law_word_of.nd rfl (.inl rfl) (ve_add (vx_var (pv 2)) (VE.toX ve_int)))
      (vs_cons (vs_while (passes_of rfl) (VWe.pt (vw_and (vt_lt (vx_var (pv 3)) (VE.toX (ve_len (by rfl) n_len (vxs_cons (vx_var (pv 0)) vxs_nil)))) (vw_and1 (vt_in hu (VE.toX (ve_ix (vx_var (pv 0)) (vx_var (pv 3)))) (VE.toX ve_str)))))
      (vs_one (vs_asg (i := 3) sc_law_word_of.nd rfl (.inl rfl) (ve_add (vx_var (pv 3)) (VE.toX ve_int)))))
      (vs_cons (vs_asg (i := 4) sc_law_word_of.nd rfl (.inl rfl) (ve_sl (vx_var (pv 0)) (vo_at (VE.toX (ve_add (vx_var (pv 2)) (VE.toX ve_int)))) (vo_at (vx_var (pv 3)))))
      (vs_cons (vs_if (VWe.pt (vw_or (vt_notIn hu (VE.toX (ve_ix (vx_var (pv 0)) (vx_var (pv 2)))) (VN.toX (vn_lst (va_cons ve_str (va_cons ve_str va_nil))))) (vw_or (vt_in hu (vx_var (pv 4)) (VN.toX (vn_lst (va_cons ve_str (va_cons ve_str va_nil))))) (vw_or (vt_eq hu (VE.toX (ve_sl (vx_var (pv 4)) vo_no (vo_at (VE.toX ve_int)))) (VE.toX ve_str)) (vw_or1 (vt_gt (VE.toX (ve_len (by rfl) n_len (vxs_cons (vx_var (pv 4)) vxs_nil))) (VE.toX ve_int)))))))
      (vs_one (vs_ret (VN.toE (vn_lst (va_cons ve_int va_nil)))))
      vs_nil)
      (vs_cons (vs_if (vt_eq hu (VE.toX (ve_sl (vx_var (pv 1)) (vo_at (VE.toX (ve_neg (VE.toX ve_int)))) vo_no)) (VE.toX (ve_ix (vx_var (pv 0)) (vx_var (pv 2)))))
      (vs_one (vs_ret (VN.toE (vn_lst (va_cons ve_int va_nil)))))
      vs_nil)
      (vs_one (vs_par2 (i := 1) (j := 2) rfl sc_law_word_of.nd rfl rfl (by decide) rfl rfl (vm_sh (ve_add (vx_var (pv 1)) (VE.toX (ve_mulA (VE.toX (ve_ix (vx_var (pv 0)) (vx_var (pv 2)))) (VE.toX (ve_intC (by rfl) n_int (vxs_cons (VE.toX (ve_if (vt_eq hu (vx_var (pv 4)) (VE.toX ve_str)) ve_str (ve_var (pv 4)))) vxs_nil)))))) (vm_sh (ve_var (pv 3)) vm_nil)) (by rfl)))))))))
      (vs_one (vs_ret (ve_if (vt_ltLe (VE.toX ve_int) (VE.toX (ve_len (by rfl) n_len (vxs_cons (vx_var (pv 1)) vxs_nil))) (VE.toX ve_int)) (ve_var (pv 1)) (VN.toE (vn_lst (va_cons ve_int va_nil)))))))))
abbrev s_check_string : Stmt := topS 20
abbrev N_check_string : List Str := ["value"]
theorem sc_check_string : FnScope N_check_string ["value"] (defScope s_check_string) := ⟨rfl, rfl, rfl, by decide +kernel, rfl, by decide +kernel, by decide +kernel⟩
theorem w_check_string {S : SV} (F : Fun K "check_string" "check_string" s_check_string f fd) (n_isinstance : mg "isinstance" = none) (n_str : mg "str" = none) (M_BadText : Mk1 P w K mg base b "BadText" "index") (hlen : ∀ ds Q E, S ds Q E → ds.length = 1)
    (law : ∀ ds Q E, S ds Q E → t_check_string (envOf 1 ds) (fin Q E)) : FnOk P w K mg base (L2.CX P w) 3 f fd ["value"] (spV b S) := by
  refine fnV F sc_check_string hlen (by decide) (fun cdv A outer s H E hr tk => ?_) law
  exact (vs_one (vs_if (vt_not (vt_val (VE.toX (ve_isi (by rfl) n_isinstance (vxs_cons (vx_var (pv 0)) (vxs_cons (VE.toX (ve_tyStr (by rfl) n_str)) vxs_nil))))))
      (vs_one (vs_raise1 M_BadText hr rfl tk (by rfl) ve_non))
      vs_nil))
abbrev s_read_integer : Stmt := topS 19
abbrev N_read_integer : List Str := ["word", "digits", "sign"]
theorem sc_read_integer : FnScope N_read_integer ["word"] (defScope s_read_integer) := ⟨rfl, rfl, rfl, by decide +kernel, rfl, by decide +kernel, by decide +kernel⟩
theorem w_read_integer {S : SV} (F : Fun K "read_integer" "read_integer" s_read_integer f fd) (c_LONGEST : ∃ t, mg "LONGEST" = some (.int 20 t)) (c_DIGITS : ∃ t, mg "DIGITS" = some (.str "0123456789" t)) (n_len : mg "len" = none) (n_all : mg "all" = none) (n_int : mg "int" = none) (hlen : ∀ ds Q E, S ds Q E → ds.length = 1)
    (law : ∀ ds Q E, S ds Q E → t_read_integer (envOf 3 ds) (fin Q E)) : FnOk P w K mg base (L2.CX P w) 1 f fd ["word"] (spV b S) := by
  refine fnV F sc_read_integer hlen (by decide) (fun cdv A outer s H E hr tk => ?_) law
  have hu := hr.units
  exact (vs_cons (vs_asg (i := 1) sc_read_integer.nd rfl (.inl rfl) (ve_if (vt_eq hu (VE.toX (ve_sl (vx_var (pv 0)) vo_no (vo_at (VE.toX ve_int)))) (VE.toX ve_str)) (ve_sl (vx_var (pv 0)) (vo_at (VE.toX ve_int)) vo_no) (ve_var (pv 0))))
      (vs_cons (vs_if (VWe.pt (vw_or (vt_not (vt_le2 (VE.toX ve_int) (VE.toX (ve_len (by rfl) n_len (vxs_cons (vx_var (pv 1)) vxs_nil))) (VE.toX (ve_gint (by rfl) c_LONGEST)))) (vw_or1 (vt_not (vt_val (VE.toX (ve_all rfl (by rfl) n_all (vxs_cons (VN.toX (vn_lc (own := [("sign", 2)]) rfl sc_read_integer.nd (vib_src (vx_var (pv 1))) (blkOk_by (N := N_read_integer) (sc := defScope s_read_integer) (by decide +kernel)) (by decide) (fun _ _ _ _ _ => (vg_name (i := 2) sc_read_integer.nd rfl (.inl rfl))) (fun _ _ _ _ _ => vts_nil) (fun _ _ _ _ _ => (ve_in hu (vx_var (pv 2)) (VE.toX (ve_gstr (by rfl) c_DIGITS)))))) vxs_nil))))))))
      (vs_one (vs_ret ve_non))
      vs_nil)
      (vs_cons (vs_if (VWe.pt (vw_and (vt_eq hu (VE.toX (ve_ix (vx_var (pv 1)) (VE.toX ve_int))) (VE.toX ve_str)) (vw_and1 (vt_ne hu (vx_var (pv 0)) (VE.toX ve_str)))))
      (vs_one (vs_ret ve_non))
      vs_nil)
      (vs_one (vs_ret (ve_intC (by rfl) n_int (vxs_cons (vx_var (pv 0)) vxs_nil)))))))
abbrev s_is_integer : Stmt := topS 12
abbrev N_is_integer : List Str := ["value", "low", "high"]
theorem sc_is_integer : FnScope N_is_integer ["value", "low", "high"] (defScope s_is_integer) := ⟨rfl, rfl, rfl, by decide +kernel, rfl, by decide +kernel, by decide +kernel⟩
theorem w_is_integer {S : SV} (F : Fun K "is_integer" "is_integer" s_is_integer f fd) (n_isinstance : mg "isinstance" = none) (n_bool : mg "bool" = none) (n_int : mg "int" = none) (hlen : ∀ ds Q E, S ds Q E → ds.length = 3)
    (law : ∀ ds Q E, S ds Q E → t_is_integer (envOf 3 ds) (fin Q E)) : FnOk P w K mg base (L2.CX P w) 1 f fd ["value", "low", "high"] (spV b S) := by
  refine fnV F sc_is_integer hlen (by decide) (fun cdv A outer s H E hr tk => ?_) law
  exact (vs_one (vs_ret (ve_and (VE.toX (ve_isi (by rfl) n_isinstance (vxs_cons (vx_var (pv 0)) (vxs_cons (VE.toX (ve_tyInt (by rfl) n_int)) vxs_nil)))) (ve_and (VE.toX (ve_not (VE.toX (ve_isi (by rfl) n_isinstance (vxs_cons (vx_var (pv 0)) (vxs_cons (VE.toX (ve_tyBool (by rfl) n_bool)) vxs_nil)))))) (ve_one (ve_le2 (vx_var (pv 1)) (vx_var (pv 0)) (vx_var (pv 2))))))))
abbrev s_is_group : Stmt := topS 13
abbrev N_is_group : List Str := ["value"]
theorem sc_is_group : FnScope N_is_group ["value"] (defScope s_is_group) := ⟨rfl, rfl, rfl, by decide +kernel, rfl, by decide +kernel, by decide +kernel⟩
theorem w_is_group {S : SV} {S_is_integer : SV} (F : Fun K "is_group" "is_group" s_is_group f fd) (F_is_integer : Cal P w K mg base b 1 "is_integer" ["value", "low", "high"] S_is_integer) (c_MAX_GROUP : ∃ t, mg "MAX_GROUP" = some (.int 1000000000 t)) (hlen : ∀ ds Q E, S ds Q E → ds.length = 1)
    (law : ∀ ds Q E, S ds Q E → t_is_group S_is_integer (envOf 1 ds) (fin Q E)) : FnOk P w K mg base (L2.CX P w) 2 f fd ["value"] (spV b S) := by
  refine fnV F sc_is_group hlen (by decide) (fun cdv A outer s H E hr tk => ?_) law
  exact (vs_one (vs_ret (ve_cal F_is_integer hr tk (by rfl) (va_cons (ve_var (pv 0)) (va_cons ve_int (va_cons (ve_gint (by rfl) c_MAX_GROUP) va_nil))))))
abbrev s_parse_row : Stmt := topS 21
abbrev N_parse_row : List Str := ["value", "found", "at", "word", "group"]
theorem sc_parse_row : FnScope N_parse_row ["value"] (defScope s_parse_row) := ⟨rfl, rfl, rfl, by decide +kernel, rfl, by decide +kernel, by decide +kernel⟩
theorem w_parse_row {S : SV} {S_check_string : SV} {S_read_integer : SV} {S_is_group : SV} (F : Fun K "parse_row" "parse_row" s_parse_row f fd) (F_check_string : Cal P w K mg base b 3 "check_string" ["value"] S_check_string) (F_read_integer : Cal P w K mg base b 1 "read_integer" ["word"] S_read_integer) (F_is_group : Cal P w K mg base b 2 "is_group" ["value"] S_is_group) (c_MAX_PEOPLE : ∃ t, mg "MAX_PEOPLE" = some (.int 40 t)) (n_enumerate : mg "enumerate" = none) (n_tuple : mg "tuple" = none) (M_BadText : Mk1 P w K mg base b "BadText" "index") (hlen : ∀ ds Q E, S ds Q E → ds.length = 1)
    (law : ∀ ds Q E, S ds Q E → t_parse_row S_check_string S_read_integer S_is_group (envOf 5 ds) (fin Q E)) : FnOk P w K mg base (L2.CX P w) 4 f fd ["value"] (spV b S) := by
  refine fnV F sc_parse_row hlen (by decide) (fun cdv A outer s H E hr tk => ?_) law
  exact (vs_cons (vs_expr (ve_cal F_check_string hr tk (by rfl) (va_cons (ve_var (pv 0)) va_nil)))
      (vs_cons (vs_asgN (i := 1) sc_parse_row.nd rfl (.inl rfl) (vn_lst va_nil))
      (vs_cons (vs_for (passes_of rfl) rfl (vi_enum (by rfl) n_enumerate (va_cons (VN.toE (vn_mth mx_split (vx_var (pv 0)) (vxs_cons (VE.toX ve_str) vxs_nil))) va_nil)) (vg_tup rfl (vgs_cons (vg_name (i := 2) sc_parse_row.nd rfl (.inl rfl)) (vgs_cons (vg_name (i := 3) sc_parse_row.nd rfl (.inl rfl)) vgs_nil)))
      (vs_cons (vs_asg (i := 4) sc_parse_row.nd rfl (.inl rfl) (ve_cal F_read_integer hr tk (by rfl) (va_cons (ve_var (pv 3)) va_nil)))
      (vs_cons (vs_if (VWe.pt (vw_or (vt_not (vt_val (VE.toX (ve_cal F_is_group hr tk (by rfl) (va_cons (ve_var (pv 4)) va_nil))))) (vw_or1 (vt_ge (vx_var (pv 2)) (VE.toX (ve_gint (by rfl) c_MAX_PEOPLE))))))
      (vs_one (vs_raise1 M_BadText hr rfl tk (by rfl) (ve_var (pv 2))))
      vs_nil)
      (vs_one (vs_app (pv 1) (va_cons (ve_var (pv 4)) va_nil))))))
      (vs_one (vs_ret (ve_tupleC (by rfl) n_tuple (vxs_cons (vx_var (pv 1)) vxs_nil)))))))
abbrev s_parse_persons : Stmt := topS 22
abbrev N_parse_persons : List Str := ["row", "value", "found", "at", "word", "person"]
theorem sc_parse_persons : FnScope N_parse_persons ["row", "value"] (defScope s_parse_persons) := ⟨rfl, rfl, rfl, by decide +kernel, rfl, by decide +kernel, by decide +kernel⟩
theorem w_parse_persons {S : SV} {S_check_string : SV} {S_read_integer : SV} {S_is_integer : SV} (F : Fun K "parse_persons" "parse_persons" s_parse_persons f fd) (F_check_string : Cal P w K mg base b 3 "check_string" ["value"] S_check_string) (F_read_integer : Cal P w K mg base b 1 "read_integer" ["word"] S_read_integer) (F_is_integer : Cal P w K mg base b 1 "is_integer" ["value", "low", "high"] S_is_integer) (c_NONE : ∃ t, mg "NONE" = some (.str "none" t)) (c_MAX_PEOPLE : ∃ t, mg "MAX_PEOPLE" = some (.int 40 t)) (n_enumerate : mg "enumerate" = none) (n_len : mg "len" = none) (n_tuple : mg "tuple" = none) (M_BadText : Mk1 P w K mg base b "BadText" "index") (hlen : ∀ ds Q E, S ds Q E → ds.length = 2)
    (law : ∀ ds Q E, S ds Q E → t_parse_persons S_check_string S_read_integer S_is_integer (envOf 6 ds) (fin Q E)) : FnOk P w K mg base (L2.CX P w) 4 f fd ["row", "value"] (spV b S) := by
  refine fnV F sc_parse_persons hlen (by decide) (fun cdv A outer s H E hr tk => ?_) law
  have hu := hr.units
  exact (vs_cons (vs_expr (ve_cal F_check_string hr tk (by rfl) (va_cons (ve_var (pv 1)) va_nil)))
      (vs_cons (vs_if (vt_eq hu (vx_var (pv 1)) (VE.toX (ve_gstr (by rfl) c_NONE)))
      (vs_one (vs_ret (ve_tup va_nil)))
      vs_nil)
      (vs_cons (vs_asgN (i := 2) sc_parse_persons.nd rfl (.inl rfl) (vn_lst va_nil))
      (vs_cons (vs_for (passes_of rfl) rfl (vi_enum (by rfl) n_enumerate (va_cons (VN.toE (vn_mth mx_split (vx_var (pv 1)) (vxs_cons (VE.toX ve_str) vxs_nil))) va_nil)) (vg_tup rfl (vgs_cons (vg_name (i := 3) sc_parse_persons.nd rfl (.inl rfl)) (vgs_cons (vg_name (i := 4) sc_parse_persons.nd rfl (.inl rfl)) vgs_nil)))
      (vs_cons (vs_asg (i := 5) sc_parse_persons.nd rfl (.inl rfl) (ve_cal F_read_integer hr tk (by rfl) (va_cons (ve_var (pv 4)) va_nil)))
      (vs_cons (vs_if (VWe.pt (vw_or (vt_not (vt_val (VE.toX (ve_cal F_is_integer hr tk (by rfl) (va_cons (ve_var (pv 5)) (va_cons ve_int (va_cons (ve_sub (VE.toX (ve_len (by rfl) n_len (vxs_cons (vx_var (pv 0)) vxs_nil))) (VE.toX ve_int)) va_nil))))))) (vw_or1 (vt_ge (vx_var (pv 3)) (VE.toX (ve_gint (by rfl) c_MAX_PEOPLE))))))
      (vs_one (vs_raise1 M_BadText hr rfl tk (by rfl) (ve_var (pv 3))))
      vs_nil)
      (vs_one (vs_app (pv 2) (va_cons (ve_var (pv 5)) va_nil))))))
      (vs_one (vs_ret (ve_tupleC (by rfl) n_tuple (vxs_cons (vx_var (pv 2)) vxs_nil))))))))
abbrev s_stretches_in : Stmt := topS 24
abbrev N_stretches_in : List Str := ["value", "found", "sign"]
theorem sc_stretches_in : FnScope N_stretches_in ["value"] (defScope s_stretches_in) := ⟨rfl, rfl, rfl, by decide +kernel, rfl, by decide +kernel, by decide +kernel⟩
theorem w_stretches_in {S : SV} (F : Fun K "stretches_in" "stretches_in" s_stretches_in f fd) (c_ARRIVAL : ∃ t, mg "ARRIVAL" = some (.str "a" t)) (c_SERVICE : ∃ t, mg "SERVICE" = some (.str "s" t)) (c_DIGITS : ∃ t, mg "DIGITS" = some (.str "0123456789" t)) (n_len : mg "len" = none) (hlen : ∀ ds Q E, S ds Q E → ds.length = 1)
    (law : ∀ ds Q E, S ds Q E → t_stretches_in (envOf 3 ds) (fin Q E)) : FnOk P w K mg base (L2.CX P w) 1 f fd ["value"] (spV b S) := by
  refine fnV F sc_stretches_in hlen (by decide) (fun cdv A outer s H E hr tk => ?_) law
  have hu := hr.units
  exact (vs_cons (vs_asgN (i := 1) sc_stretches_in.nd rfl (.inl rfl) (vn_lst va_nil))
      (vs_cons (vs_for (passes_of rfl) rfl (vi_src (ve_var (pv 0))) (vg_name (i := 2) sc_stretches_in.nd rfl (.inl rfl))
      (vs_one (vs_if (vt_in hu (vx_var (pv 2)) (VE.toX (ve_tup (va_cons (ve_gstr (by rfl) c_ARRIVAL) (va_cons (ve_gstr (by rfl) c_SERVICE) va_nil)))))
      (vs_one (vs_app (pv 1) (va_cons (ve_var (pv 2)) va_nil)))
      (vs_one (vs_if (VWe.pt (vw_or (vt_notIn hu (vx_var (pv 2)) (VE.toX (ve_gstr (by rfl) c_DIGITS))) (vw_or (vt_eq hu (vx_var (pv 1)) (VN.toX (vn_lst va_nil))) (vw_or1 (vt_gt (VE.toX (ve_len (by rfl) n_len (vxs_cons (VE.toX (ve_ix (vx_var (pv 1)) (VE.toX (ve_neg (VE.toX ve_int))))) vxs_nil))) (VE.toX ve_int))))))
      (vs_one (vs_ret ve_non))
      (vs_one (vs_stoL (pv 1) (ve_neg (VE.toX ve_int)) (ve_add (VE.toX (ve_ix (vx_var (pv 1)) (VE.toX (ve_neg (VE.toX ve_int))))) (vx_var (pv 2))))))))))
      (vs_one (vs_frz 1 (vs_ret (ve_var (pv 1)))))))
abbrev s_short_word : Stmt := topS 23
abbrev N_short_word : List Str := ["word", "parts", "at", "end"]
theorem sc_short_word : FnScope N_short_word ["word"] (defScope s_short_word) := ⟨rfl, rfl, rfl, by decide +kernel, rfl, by decide +kernel, by decide +kernel⟩
theorem w_short_word {S : SV} (F : Fun K "short_word" "short_word" s_short_word f fd) (c_EMPTY : ∃ t, mg "EMPTY" = some (.str "-" t)) (n_len : mg "len" = none) (n_str : mg "str" = none) (hlen : ∀ ds Q E, S ds Q E → ds.length = 1)
    (law : ∀ ds Q E, S ds Q E → t_short_word (envOf 4 ds) (fin Q E)) : FnOk P w K mg base (L2.CX P w) 1 f fd ["word"] (spV b S) := by
  refine fnV F sc_short_word hlen (by decide) (fun cdv A outer s H E hr tk => ?_) law
  have hu := hr.units
  exact (vs_cons (vs_par2 (i := 1) (j := 2) rfl sc_short_word.nd rfl rfl (by decide) rfl rfl (vm_nw (vn_lst va_nil) (vm_sh ve_int vm_nil)) (by rfl))
      (vs_cons (vs_while (passes_of rfl) (vt_lt (vx_var (pv 2)) (VE.toX (ve_len (by rfl) n_len (vxs_cons (vx_var (pv 0)) vxs_nil))))
      (vs_cons (vs_asg (i := 3) sc_short_word.nd rfl (.inl rfl) (ve_var (pv 2)))
      (vs_cons (vs_while (passes_of rfl) (VWe.pt (vw_and (vt_lt (vx_var (pv 3)) (VE.toX (ve_len (by rfl) n_len (vxs_cons (vx_var (pv 0)) vxs_nil)))) (vw_and1 (vt_eq hu (VE.toX (ve_ix (vx_var (pv 0)) (vx_var (pv 3)))) (VE.toX (ve_ix (vx_var (pv 0)) (vx_var (pv 2))))))))
      (vs_one (vs_augAdd (i := 3) sc_short_word.nd rfl (.inl rfl) ve_int)))
      (vs_cons (vs_app (pv 1) (va_cons (ve_add (VE.toX (ve_ix (vx_var (pv 0)) (vx_var (pv 2)))) (VE.toX (ve_if (vt_gt (VE.toX (ve_sub (vx_var (pv 3)) (vx_var (pv 2)))) (VE.toX ve_int)) (ve_strC (by rfl) n_str (vxs_cons (VE.toX (ve_sub (vx_var (pv 3)) (vx_var (pv 2)))) vxs_nil)) ve_str))) va_nil))
      (vs_one (vs_asg (i := 2) sc_short_word.nd rfl (.inl rfl) (ve_var (pv 3))))))))
      (vs_one (vs_ret (ve_orS (VE.toX (ve_mth mx_join (VE.toX ve_str) (vxs_cons (vx_var (pv 1)) vxs_nil))) (ve_one (ve_gstr (by rfl) c_EMPTY)))))))
abbrev s_long_word : Stmt := topS 25
abbrev N_long_word : List Str := ["value", "stretches", "word", "part"]
theorem sc_long_word : FnScope N_long_word ["value"] (defScope s_long_word) := ⟨rfl, rfl, rfl, by decide +kernel, rfl, by decide +kernel, by decide +kernel⟩
theorem w_long_word {S : SV} {S_check_string : SV} {S_stretches_in : SV} {S_short_word : SV} (F : Fun K "long_word" "long_word" s_long_word f fd) (F_check_string : Cal P w K mg base b 3 "check_string" ["value"] S_check_string) (F_stretches_in : Cal P w K mg base b 1 "stretches_in" ["value"] S_stretches_in) (F_short_word : Cal P w K mg base b 1 "short_word" ["word"] S_short_word) (c_EMPTY : ∃ t, mg "EMPTY" = some (.str "-" t)) (c_MAX_PEOPLE : ∃ t, mg "MAX_PEOPLE" = some (.int 40 t)) (n_int : mg "int" = none) (n_len : mg "len" = none) (M_BadText : Mk1 P w K mg base b "BadText" "index") (hlen : ∀ ds Q E, S ds Q E → ds.length = 1)
    (law : ∀ ds Q E, S ds Q E → t_long_word S_check_string S_stretches_in S_short_word (envOf 4 ds) (fin Q E)) : FnOk P w K mg base (L2.CX P w) 4 f fd ["value"] (spV b S) := by
  refine fnV F sc_long_word hlen (by decide) (fun cdv A outer s H E hr tk => ?_) law
  have hu := hr.units
  exact (vs_cons (vs_expr (ve_cal F_check_string hr tk (by rfl) (va_cons (ve_var (pv 0)) va_nil)))
      (vs_cons (vs_asg (i := 1) sc_long_word.nd rfl (.inl rfl) (ve_if (vt_ne hu (vx_var (pv 0)) (VE.toX (ve_gstr (by rfl) c_EMPTY))) (ve_cal F_stretches_in hr tk (by rfl) (va_cons (ve_var (pv 0)) va_nil)) (VN.toE (vn_lst va_nil))))
      (vs_cons (vs_if (vt_isN (vx_var (pv 1)) (VE.toX ve_non))
      (vs_one (vs_raise1 M_BadText hr rfl tk (by rfl) ve_int))
      vs_nil)
      (vs_cons (vs_asg (i := 2) sc_long_word.nd rfl (.inl rfl) (ve_mth mx_join (VE.toX ve_str) (vxs_cons (VN.toX (vn_lc (own := [("part", 3)]) rfl sc_long_word.nd (vib_src (vx_var (pv 1))) (blkOk_by (N := N_long_word) (sc := defScope s_long_word) (by decide +kernel)) (by decide) (fun _ _ _ _ _ => (vg_name (i := 3) sc_long_word.nd rfl (.inl rfl))) (fun _ _ _ _ _ => vts_nil) (fun _ _ _ _ _ => (ve_mulA (VE.toX (ve_ix (vx_var (pv 3)) (VE.toX ve_int))) (VE.toX (ve_intC (by rfl) n_int (vxs_cons (VE.toX (ve_orS (VE.toX (ve_sl (vx_var (pv 3)) (vo_at (VE.toX ve_int)) vo_no)) (ve_one ve_str))) vxs_nil))))))) vxs_nil)))
      (vs_cons (vs_if (VWe.pt (vw_or (vt_gt (VE.toX (ve_len (by rfl) n_len (vxs_cons (vx_var (pv 2)) vxs_nil))) (VE.toX (ve_mulA (VE.toX ve_int) (VE.toX (ve_gint (by rfl) c_MAX_PEOPLE))))) (vw_or1 (vt_ne hu (VE.toX (ve_cal F_short_word hr tk (by rfl) (va_cons (ve_var (pv 2)) va_nil))) (vx_var (pv 0))))))
      (vs_one (vs_raise1 M_BadText hr rfl tk (by rfl) ve_int))
      vs_nil)
      (vs_one (vs_ret (ve_var (pv 2)))))))))
abbrev s_law_found : Stmt := topS 38
abbrev N_law_found : List Str := ["_law_way", "_law_row", "_law_value", "_law_found_here", "error", "_law_alone"]
theorem sc_law_found : FnScope N_law_found ["_law_way", "_law_row", "_law_value"] (defScope s_law_found) := ⟨rfl, rfl, rfl, by decide +kernel, rfl, by decide +kernel, by decide +kernel⟩
theorem w_law_found {S : SV} {S_parse_row : SV} {S_parse_persons : SV} {S_long_word : SV} (F : Fun K "_law_found" "_law_found" s_law_found f fd) (F_parse_row : Cal P w K mg base b 4 "parse_row" ["value"] S_parse_row) (F_parse_persons : Cal P w K mg base b 4 "parse_persons" ["row", "value"] S_parse_persons) (F_long_word : Cal P w K mg base b 4 "long_word" ["value"] S_long_word) (n_isinstance : mg "isinstance" = none) (n_ValueError : mg "ValueError" = none) (T_LineError : ErrT K mg b ["BadText"] "LineError") (T_Rejected : ErrT K mg b ["BadText"] "Rejected") (T_NoIndex : ErrT K mg b ["BadText"] "NoIndex") (T_BadCount : ErrT K mg b ["BadText"] "BadCount") (T_BadBatch : ErrT K mg b ["BadText"] "BadBatch") (EC : ∀ n ∈ (["BadText"] : List Str), ErrC K (b.cls n)) (EV : ∀ n ∈ (["BadText"] : List Str), PySem.W.kitOne K (.ref (b.cls n)) (.type "ValueError") = some true) (T_BadText : ErrT K mg b ["BadText"] "BadText") (FE_index : ∀ n ∈ (["BadText"] : List Str), FldC K (b.cls n) "index") (hlen : ∀ ds Q E, S ds Q E → ds.length = 3)
    (law : ∀ ds Q E, S ds Q E → t_law_found S_parse_row S_parse_persons S_long_word (envOf 6 ds) (fin Q E)) : FnOk P w K mg base (L2.CX P w) 5 f fd ["_law_way", "_law_row", "_law_value"] (spV b S) := by
  refine fnV F sc_law_found hlen (by decide) (fun cdv A outer s H E hr tk => ?_) law
  have hu := hr.units
  exact (vs_cons (vs_asg (i := 3) sc_law_found.nd rfl (.inl rfl) ve_non)
      (vs_cons (vs_try (i := 4) rfl rfl sc_law_found.nd rfl rfl T_LineError (by rfl) tk (fun W pn xe tk ps =>
      (vs_one (vs_if (vt_eq hu (vx_var (pv 0)) (VE.toX ve_int))
      (vs_one (vs_asg (i := 3) sc_law_found.nd rfl (.inl rfl) (ve_cal F_parse_row hr tk (by rfl) (va_cons (ve_var (pv 2)) va_nil))))
      (vs_one (vs_asg (i := 3) sc_law_found.nd rfl (.inl rfl) (ve_if (vt_eq hu (vx_var (pv 0)) (VE.toX ve_int)) (ve_cal F_parse_persons hr tk (by rfl) (va_cons (ve_var (pv 1)) (va_cons (ve_var (pv 2)) va_nil))) (ve_cal F_long_word hr tk (by rfl) (va_cons (ve_var (pv 2)) va_nil)))))))) (fun a oe er d pn hz hf =>
      (vs_cons (vs_asg (i := 5) sc_law_found.nd rfl (.inl rfl) (ve_and (VE.toX (ve_errV EV EC hz hf (by rfl) n_isinstance (pv 4) (by rfl) n_ValueError)) (ve_one (ve_not (VE.toX (ve_errIT (pns_cons T_BadBatch (by rfl) (pns_cons T_BadCount (by rfl) (pns_cons T_NoIndex (by rfl) (pns_cons T_Rejected (by rfl) pns_nil)))) EC hz hf (by rfl) n_isinstance (pv 4) (by decide)))))))
      (vs_one (vs_asg (i := 3) sc_law_found.nd rfl (.inl rfl) (ve_if (VWe.pt (vw_and (vt_val (vx_var (pv 5))) (vw_and1 (vt_val (VE.toX (ve_errI T_BadText EC hz hf (by rfl) n_isinstance (pv 4) (by rfl))))))) (VN.toE (vn_lst (va_cons (ve_errF FE_index hz hf (pv 4)) va_nil))) ve_str))))))
      (vs_one (vs_ret (ve_var (pv 3))))))
abbrev s_law : Stmt := topS 40
abbrev N_law : List Str := ["_law_script", "_law_bag", "_law_turn", "_law_row", "_law_many", "_law_word_here", "_law_shown", "_law_texts", "_law_short", "_law_value", "_law_due", "_law_k", "_law_some", "_law_way"]
theorem sc_law : FnScope N_law ["_law_script"] (defScope s_law) := ⟨rfl, rfl, rfl, by decide +kernel, rfl, by decide +kernel, by decide +kernel⟩
theorem w_law {S_law_drawn : SV} {S_law_word : SV} {S_law_take : SV} {S_x_spaced : SV} {S_law_shortened : SV} {S_law_changed : SV} {S_law_pick : SV} {S_law_row_of : SV} {S_law_persons_of : SV} {S_law_word_of : SV} {S_law_found : SV} (F_law_drawn : Cal P w K mg base b 3 "_law_drawn" ["_law_bag", "_law_most"] S_law_drawn) (F_law_word : Cal P w K mg base b 2 "_law_word" ["_law_bag", "_law_many", "_law_way"] S_law_word) (F_law_take : Cal P w K mg base b 1 "_law_take" ["_law_bag", "_law_many"] S_law_take) (F_x_spaced : Cal P w K mg base b 1 "_law_spaced" ["_law_items"] S_x_spaced) (F_law_shortened : Cal P w K mg base b 1 "_law_shortened" ["_law_word_here"] S_law_shortened) (F_law_changed : Cal P w K mg base b 3 "_law_changed" ["_law_bag", "_law_text"] S_law_changed) (F_law_pick : Cal P w K mg base b 2 "_law_pick" ["_law_bag", "_law_items"] S_law_pick) (F_law_row_of : Cal P w K mg base b 2 "_law_row_of" ["_law_text"] S_law_row_of) (F_law_persons_of : Cal P w K mg base b 2 "_law_persons_of" ["_law_many", "_law_text"] S_law_persons_of) (F_law_word_of : Cal P w K mg base b 1 "_law_word_of" ["_law_text"] S_law_word_of) (F_law_found : Cal P w K mg base b 5 "_law_found" ["_law_way", "_law_row", "_law_value"] S_law_found) (n_range : mg "range" = none) (n_len : mg "len" = none) (n_repr : mg "repr" = none) (cdv : Value) (A : Around) (outer : List Env) (s : Shared) (H : Hp) (E : XK) (hr : Room 5 (A.deeper (envOfC "law" (defScope s_law) s.heap.objs.size f cdv))) (hgd : (A.deeper (envOfC "law" (defScope s_law) s.heap.objs.size f cdv)).guards = some []) (tk : Takes (cxOf (L2.CX P w) P w K mg base N_law "law" (defScope s_law) f cdv A outer s H E) (WF E)) : VSs (cxOf (L2.CX P w) P w K mg base N_law "law" (defScope s_law) f cdv A outer s H E) b (WF E) (defBody s_law).tail (t_law S_law_drawn S_law_word S_law_take S_x_spaced S_law_shortened S_law_changed S_law_pick S_law_row_of S_law_persons_of S_law_word_of S_law_found) := by
  have hu := hr.units
  exact (vs_cons (vs_for (passes_of rfl) rfl (vi_range1 (by rfl) n_range (vxs_cons (VE.toX ve_int) vxs_nil)) (vg_name (i := 2) sc_law.nd rfl (.inl rfl))
      (vs_cons (vs_asg (i := 3) sc_law.nd rfl (.inr rfl) (ve_cal F_law_drawn hr tk (by rfl) (va_cons (ve_var (pv 1)) (va_cons (ve_ix (VN.toX (vn_lst (va_cons ve_int (va_cons ve_int (va_cons ve_int va_nil))))) (vx_var (pv 2))) va_nil))))
      (vs_cons (vs_parT (is := [4, 5]) rfl (pgs_cons (pg_name (i := 4) sc_law.nd rfl (.inr rfl)) (pgs_cons (pg_name (i := 5) sc_law.nd rfl (.inl rfl)) pgs_nil)) (vm_sh (ve_len (by rfl) n_len (vxs_cons (vx_var (pv 3)) vxs_nil)) (vm_sh (ve_cal F_law_word hr tk (by rfl) (va_cons (ve_var (pv 1)) (va_cons (ve_len (by rfl) n_len (vxs_cons (vx_var (pv 3)) vxs_nil)) (va_cons (ve_cal F_law_take hr tk (by rfl) (va_cons (ve_var (pv 1)) (va_cons ve_int va_nil))) va_nil)))) vm_nil)))
      (vs_cons (vs_asg (i := 6) sc_law.nd rfl (.inl rfl) (ve_cal F_x_spaced hr tk (by rfl) (va_cons (VN.toE (vn_lc (own := [("_law_k", 11)]) rfl sc_law.nd (vib_range1 (by rfl) n_range (vxs_cons (VE.toX (ve_add (VE.toX ve_int) (VE.toX (ve_cal F_law_take hr tk (by rfl) (va_cons (ve_var (pv 1)) (va_cons ve_int va_nil)))))) vxs_nil)) (blkOk_by (N := N_law) (sc := defScope s_law) (by decide +kernel)) (by decide) (fun _ _ _ _ _ => (vg_name (i := 11) sc_law.nd rfl (.inl rfl))) (fun _ _ _ _ _ => vts_nil) (fun _ _ _ _ _ => (ve_cal F_law_take hr takes0 (by rfl) (va_cons (ve_var (pv 1)) (va_cons (ve_var (pv 4)) va_nil)))))) va_nil)))
      (vs_cons (vs_asg (i := 7) sc_law.nd rfl (.inl rfl) (VN.toE (vn_lst (va_cons (ve_cal F_x_spaced hr tk (by rfl) (va_cons (ve_var (pv 3)) va_nil)) (va_cons (ve_var (pv 6)) (va_cons (ve_cal F_law_shortened hr tk (by rfl) (va_cons (ve_var (pv 5)) va_nil)) (va_cons ve_str (va_cons ve_str (va_cons ve_str (va_cons ve_str (va_cons ve_str (va_cons ve_str (va_cons ve_str (va_cons ve_str (va_cons ve_str (va_cons ve_str va_nil))))))))))))))))
      (vs_cons (vs_asg (i := 7) sc_law.nd rfl (.inl rfl) (ve_add (vx_var (pv 7)) (VN.toX (vn_lst (va_cons ve_str (va_cons ve_str (va_cons ve_str (va_cons ve_str (va_cons ve_str (va_cons ve_str (va_cons ve_str (va_cons ve_str (va_cons ve_str (va_cons ve_str (va_cons ve_str (va_cons ve_str va_nil))))))))))))))))
      (vs_cons (vs_asg (i := 7) sc_law.nd rfl (.inl rfl) (ve_add (vx_var (pv 7)) (VN.toX (vn_lst (va_cons ve_str (va_cons ve_str (va_cons ve_str (va_cons (ve_cal F_x_spaced hr tk (by rfl) (va_cons (ve_mulA (VN.toX (vn_lst (va_cons ve_int va_nil))) (VE.toX ve_int)) va_nil)) (va_cons (ve_cal F_x_spaced hr tk (by rfl) (va_cons (ve_mulA (VN.toX (vn_lst (va_cons ve_int va_nil))) (VE.toX ve_int)) va_nil)) (va_cons ve_str (va_cons ve_str va_nil)))))))))))
      (vs_cons (vs_asg (i := 7) sc_law.nd rfl (.inl rfl) (ve_add (vx_var (pv 7)) (VN.toX (vn_lst (va_cons (ve_mulA (VE.toX ve_str) (VE.toX ve_int)) (va_cons (ve_add (VE.toX ve_str) (VE.toX (ve_mulA (VE.toX ve_str) (VE.toX ve_int)))) (va_cons ve_str (va_cons ve_str va_nil))))))))
      (vs_cons (vs_asg (i := 8) sc_law.nd rfl (.inr rfl) (VN.toE (vn_lc (own := [("_law_some", 12)]) rfl sc_law.nd (vib_src (vx_var (pv 7))) (blkOk_by (N := N_law) (sc := defScope s_law) (by decide +kernel)) (by decide) (fun _ _ _ _ _ => (vg_name (i := 12) sc_law.nd rfl (.inl rfl))) (fun _ _ _ _ _ => (vts_one (vt_lt (VE.toX (ve_len (by rfl) n_len (vxs_cons (vx_var (pv 12)) vxs_nil))) (VE.toX ve_int)))) (fun _ _ _ _ _ => (ve_var (pv 12))))))
      (vs_cons (vs_for (passes_of rfl) rfl (vi_src (ve_add (vx_var (pv 7)) (VN.toX (vn_lc (own := [("_law_k", 11)]) rfl sc_law.nd (vib_range1 (by rfl) n_range (vxs_cons (VE.toX ve_int) vxs_nil)) (blkOk_by (N := N_law) (sc := defScope s_law) (by decide +kernel)) (by decide) (fun _ _ _ _ _ => (vg_name (i := 11) sc_law.nd rfl (.inl rfl))) (fun _ _ _ _ _ => vts_nil) (fun _ _ _ _ _ => (ve_cal F_law_changed hr takes0 (by rfl) (va_cons (ve_var (pv 1)) (va_cons (ve_cal F_law_pick hr takes0 (by rfl) (va_cons (ve_var (pv 1)) (va_cons (ve_var (pv 8)) va_nil))) va_nil)))))))) (vg_name (i := 9) sc_law.nd rfl (.inr rfl))
      (vs_cons (vs_asg (i := 10) sc_law.nd rfl (.inl rfl) (VN.toE (vn_lst (va_cons (ve_cal F_law_row_of hr tk (by rfl) (va_cons (ve_var (pv 9)) va_nil)) (va_cons (ve_cal F_law_persons_of hr tk (by rfl) (va_cons (ve_var (pv 4)) (va_cons (ve_var (pv 9)) va_nil))) (va_cons (ve_cal F_law_word_of hr tk (by rfl) (va_cons (ve_var (pv 9)) va_nil)) va_nil))))))
      (vs_one (vs_if (VWe.pt (vw_and (vt_le (VE.toX (ve_len (by rfl) n_len (vxs_cons (vx_var (pv 9)) vxs_nil))) (VE.toX ve_int)) (vw_and1 (vt_ne hu (VE.toX (ve_repr hu hgd (by rfl) n_repr (vxs_cons (VN.toX (vn_lc (own := [("_law_way", 13)]) rfl sc_law.nd (vib_range1 (by rfl) n_range (vxs_cons (VE.toX ve_int) vxs_nil)) (blkOk_by (N := N_law) (sc := defScope s_law) (by decide +kernel)) (by decide) (fun _ _ _ _ _ => (vg_name (i := 13) sc_law.nd rfl (.inl rfl))) (fun _ _ _ _ _ => vts_nil) (fun _ _ _ _ _ => (ve_cal F_law_found hr takes0 (by rfl) (va_cons (ve_var (pv 13)) (va_cons (ve_var (pv 3)) (va_cons (ve_var (pv 9)) va_nil))))))) vxs_nil))) (VE.toX (ve_repr hu hgd (by rfl) n_repr (vxs_cons (vx_var (pv 10)) vxs_nil)))))))
      (vs_one (vs_ret ve_bl))
      vs_nil))))
      (vs_one (vs_for (passes_of rfl) rfl (vi_src (VN.toE (vn_lst (va_cons ve_non (va_cons ve_int (va_cons ve_bl (va_cons (ve_var (pv 3)) (va_cons (VN.toE (vn_lst (va_cons ve_str va_nil))) (va_cons (VN.toE vn_dict0) (va_cons (ve_cal F_law_pick hr tk (by rfl) (va_cons (ve_var (pv 1)) (va_cons (VN.toE (vn_lst (va_cons (ve_tup va_nil) (va_cons (VN.toE (vn_lst va_nil)) (va_cons ve_int (va_cons (ve_tup (va_cons ve_str va_nil)) (va_cons (VN.toE (vn_dict1 ve_int)) va_nil))))))) va_nil))) va_nil)))))))))) (vg_name (i := 9) sc_law.nd rfl (.inr rfl))
      (vs_one (vs_if (vt_ne hu (VE.toX (ve_repr hu hgd (by rfl) n_repr (vxs_cons (VN.toX (vn_lc (own := [("_law_way", 13)]) rfl sc_law.nd (vib_range1 (by rfl) n_range (vxs_cons (VE.toX ve_int) vxs_nil)) (blkOk_by (N := N_law) (sc := defScope s_law) (by decide +kernel)) (by decide) (fun _ _ _ _ _ => (vg_name (i := 13) sc_law.nd rfl (.inl rfl))) (fun _ _ _ _ _ => vts_nil) (fun _ _ _ _ _ => (ve_cal F_law_found hr takes0 (by rfl) (va_cons (ve_var (pv 13)) (va_cons (ve_var (pv 3)) (va_cons (ve_var (pv 9)) va_nil))))))) vxs_nil))) (VE.toX ve_str))
      (vs_one (vs_ret ve_bl))
      vs_nil))))))))))))))
      (vs_one (vs_ret ve_bl)))
end
end LawP
set_option Elab.async false
set_option linter.all false
set_option maxRecDepth 100000
set_option maxHeartbeats 4000000
namespace LawP
open PySem PySem.Spec PyProof.Rows L2 VL
abbrev sOpened : Stmt := topS 27
abbrev sTake : Stmt := topS 28
abbrev sPick : Stmt := topS 29
theorem scOpened : FnScope ["_law_script", "_law_cells", "_law_cell"] ["_law_script"] (defScope sOpened) := ⟨rfl, rfl, rfl, by decide +kernel, rfl, by decide +kernel, by decide +kernel⟩
theorem scTake : FnScope ["_law_bag", "_law_many", "_law_rest", "_law_drawn_here", "_law_cells", "_law_seed"] ["_law_bag", "_law_many"] (defScope sTake) := ⟨rfl, rfl, rfl, by decide +kernel, rfl, by decide +kernel, by decide +kernel⟩
theorem scPick : FnScope ["_law_bag", "_law_items"] ["_law_bag", "_law_items"] (defScope sPick) := ⟨rfl, rfl, rfl, by decide +kernel, rfl, by decide +kernel, by decide +kernel⟩
section
variable {P : Program} {w : World} {K : PySem.W.Frag} {mg : Str → Option Value} {base : Heap} {f f2 : Addr} {fd fd2 : FuncData}
theorem ok_take {k : Nat} (F : Fun K "_law_take" "_law_take" sTake f fd) (ml : mg "len" = none) : FnOk P w K mg base (L2.CX P w) (k + 1) f fd ["_law_bag", "_law_many"] spTake := by
  refine F.okX scTake (fun vs H Q E h => ?_) (fun cdv A outer s H vs Q E hr h => ?_)
  · obtain ⟨r, l1, l2, gs, ds, n, m, rfl, _⟩ := h
    rfl
  · have hu := hr.units
    have h1 := hu_of hr
    refine ⟨_, pss_cons (ps_while (passes_of rfl) (pt_cmpR (op_neP hu) (pe_dget h1 (pv 0) pe_str (fun _ _ => rfl)) (pe_lst pa_nil) (nomark _))
        (pss_cons (ps_set (i := 2) scTake.nd rfl (.inl rfl) (pe_bm PySem.F.plainAttrs_list PySem.F.slot_list_pop PySem.F.type_list_pop mt_popAt (pe_dget h1 (pv 0) pe_str (fun _ _ => rfl)) (pa_cons pe_int pa_nil)))
          (pss_one (ps_if (pt_cmpR op_gt (pv 2) pe_int (nomark _))
            (pss_cons (ps_expr (pe_bm PySem.F.plainAttrs_list PySem.F.slot_list_insert PySem.F.type_list_insert mt_insert (pe_dget h1 (pv 0) pe_str (fun _ _ => rfl)) (pa_cons pe_int (pa_cons (pe_op op_fdivN (pv 2) (pv 1)) pa_nil))))
              (pss_one (ps_ret (pe_op op_mod (pv 2) (pv 1))))) pss_nil))))
      (pss_cons (ps_par (i := 3) (j := 4) rfl scTake.nd rfl rfl (by decide) rfl rfl (pa_cons (pe_dget h1 (pv 0) pe_str (fun _ _ => rfl)) (pa_cons (pe_dget h1 (pv 0) pe_str (fun _ _ => rfl)) pa_nil)) (by rfl))
      (pss_cons (ps_dput h1 (pv 0) pe_str (pe_op op_add (pv 3) pe_int) (by rfl))
      (pss_cons (ps_set (i := 5) scTake.nd rfl (.inl rfl) (pe_op op_add (pe_op op_mod (pe_ix ix_list (pv 4) (pe_op op_mod (pv 3) (pe_callB call_len_seq (by rfl) ml PySem.boot_len (pa_cons (pv 4) pa_nil))) (fun _ _ => rfl)) pe_int) (pe_op op_mul pe_int (pe_op op_add (pv 3) pe_int))))
      (pss_cons (ps_set (i := 5) scTake.nd rfl (.inl rfl) (pe_op op_mod (pe_op op_mul (pe_op op_mod (pv 5) pe_int) (pe_op op_add (pe_op op_mod (pv 5) pe_int) pe_int)) pe_int))
      (pss_cons (ps_set (i := 5) scTake.nd rfl (.inl rfl) (pe_op op_mod (pe_op op_mul (pe_op op_mod (pe_op op_add (pe_op op_mul (pv 5) (pv 5)) (pe_op op_mul pe_int (pv 3))) pe_int) pe_int) pe_int))
      (pss_one (ps_ret (pe_op op_mod (pe_op op_fdivN (pv 5) pe_int) (pv 1))))))))), ?_⟩
    obtain ⟨r, l1, l2, gs, ds, n, m, rfl, hb, m0, m1, q⟩ := h
    refine ⟨fun k σ H' => ∃ x2 gs', k = List.length gs' ∧ σ = [some (.ref r), some (.int m), x2, none, none, none] ∧ KeepB r l1 l2 H H' ∧ bagAt r l1 l2 gs' ds n H', ⟨_, none, gs, rfl, rfl, .refl, hb⟩, ?_⟩
    rintro k σ H1 ⟨x2, gs', rfl, rfl, kp, b1⟩
    have e1 : ∀ {p : Addr} {o : HO}, H1 p = none → bagAt r l1 l2 gs' ds n (upd H1 p o) := fun {p o} hp => ⟨by rw [upd_ne (ne_of_none b1.1 hp)]; exact b1.1, by rw [upd_ne (ne_of_none b1.2.1 hp)]; exact b1.2.1, by rw [upd_ne (ne_of_none b1.2.2.1 hp)]; exact b1.2.2.1, b1.2.2.2⟩
    refine ⟨.ref r, rfl, r, .ref l1, rfl, DGet.k (k := kG) b1.1, Nat.zero_le _, fun p hp => ?_⟩
    have b2 := e1 (o := .lst []) hp
    have kp2 : KeepB r l1 l2 H (upd H1 p (.lst [])) := kp.upd (.inr (.inr (.inr hp)))
    refine ⟨.list (gs'.map PyData.int), .list [], .lst b2.2.1 not_false (.of_ints _), .lst upd_same not_false .nil, (by simp only [PyData.plain]; exact plain_ints gs'), rfl, .inr (by decide), _, rfl, ?_⟩
    generalize upd H1 p (.lst []) = H2 at b2 kp2
    cases gs' with
    | cons g gs' =>
      refine ⟨fun σ H' => ∃ m', m' < (g :: gs').length ∧ ∃ x2 gs'', m' = List.length gs'' ∧ σ = [some (.ref r), some (.int m), x2, none, none, none] ∧ KeepB r l1 l2 H H' ∧ bagAt r l1 l2 gs'' ds n H', fun σ' H' h => h, ?_⟩
      -- rest = bag['great'].pop(0)
      refine ⟨.ref r, rfl, r, .ref l1, rfl, DGet.k (k := kG) b2.1, .inl ⟨rfl, _, SqL.of b2.2.1⟩, ?_⟩
      refine ⟨l1, (g :: gs').map V.int, 0, 0, .int g, rfl, rfl, b2.2.1, by decide, by decide, by simp [seqIndex?], rfl, ?_⟩
      have b3 : bagAt r l1 l2 gs' ds n (upd H2 l1 (.lst (gs'.map V.int))) := ⟨by rw [upd_ne b2.rl1]; exact b2.1, upd_same, by rw [upd_ne (Ne.symm b2.2.2.2.2.2)]; exact b2.2.2.1, Nat.le_of_succ_le b2.2.2.2.1, b2.2.2.2.2⟩
      have kp3 : KeepB r l1 l2 H (upd H2 l1 (.lst (gs'.map V.int))) := kp2.upd (.inr (.inl rfl))
      have e3 : ((g :: gs').map V.int).eraseIdx 0 = gs'.map V.int := rfl
      rw [e3]
      generalize upd H2 l1 (.lst (gs'.map V.int)) = H3 at b3 kp3
      -- if rest > 0
      refine ⟨.int g, rfl, g, 0, rfl, rfl, _, rfl, ite2 (fun c => ?_) (fun c => ?_)⟩
      · refine ⟨.ref r, rfl, r, .ref l1, rfl, DGet.k (k := kG) b3.1, .inl ⟨rfl, _, SqL.of b3.2.1⟩, .int g, rfl, .int m, rfl, g, m, rfl, rfl, ⟨by omega, by omega⟩, ?_⟩
        have hl : gs'.length < sizeLine := Nat.lt_of_le_of_lt b3.2.2.2.1 (by decide)
        refine ⟨l1, _, 0, _, rfl, rfl, b3.2.1, by rw [List.length_map]; exact hl, Int.le_refl _, by decide, ?_⟩
        have b4 : bagAt r l1 l2 (g.fdiv m :: gs') ds n (upd H3 l1 (.lst ((g.fdiv m :: gs').map V.int))) := ⟨by rw [upd_ne b3.rl1]; exact b3.1, upd_same, by rw [upd_ne (Ne.symm b3.2.2.2.2.2)]; exact b3.2.2.1, b2.2.2.2.1, b3.2.2.2.2⟩
        exact ⟨.int g, rfl, .int m, rfl, g, m, rfl, rfl, m0, q _ _ _ _ (kp3.upd (.inr (.inl rfl))) b4 (Int.emod_nonneg _ (by omega)) (Int.emod_lt_of_pos _ m0)⟩
      · exact ⟨gs'.length, Nat.lt_succ_self _, some (.int g), gs', rfl, rfl, kp3, b3⟩
    | nil =>
      -- here, cells = bag['drawn'], bag['cells']
      refine ⟨.ref r, rfl, r, .int n, rfl, DGet.k (k := kN) b2.1, .ref r, rfl, r, .ref l2, rfl, DGet.k (k := kC) b2.1, _, _, rfl, ?_⟩
      -- bag['drawn'] = here + 1
      refine ⟨.int n, rfl, n, 1, rfl, rfl, .ref r, rfl, r, _, rfl, DPut.k (k := kN) b2.1 (show 3 < sizeLine by decide), ?_⟩
      have b3 : bagAt r l1 l2 [] ds (n + 1) (upd H2 r (.dK [(kG, .ref l1), (kC, .ref l2), (kN, .int (n + 1))])) := ⟨upd_same, by rw [upd_ne b2.rl1.symm]; exact b2.2.1, by rw [upd_ne b2.rl2.symm]; exact b2.2.2.1, b2.2.2.2⟩
      have kp3 : KeepB r l1 l2 H (upd H2 r (.dK [(kG, .ref l1), (kC, .ref l2), (kN, .int (n + 1))])) := kp2.upd (.inl rfl)
      have e3 : putK [(kG, V.ref l1), (kC, .ref l2), (kN, .int n)] kN (.int (n + 1)) = [(kG, .ref l1), (kC, .ref l2), (kN, .int (n + 1))] := rfl
      rw [e3]
      generalize upd H2 r (.dK [(kG, .ref l1), (kC, .ref l2), (kN, .int (n + 1))]) = H3 at b3 kp3
      have dl : 0 < ds.length := List.length_pos_iff.mpr b3.2.2.2.2.1
      have hL : SqL K H3 l2 (ds.map V.int) := SqL.of b3.2.2.1
      have i0 : 0 ≤ n % ((ds.map V.int).length : Int) := Int.emod_nonneg _ (by rw [List.length_map]; omega)
      have i1 : n % ((ds.map V.int).length : Int) < (ds.map V.int).length := Int.emod_lt_of_pos _ (by rw [List.length_map]; omega)
      obtain ⟨j, ej⟩ : ∃ j : Nat, n % ((ds.map V.int).length : Int) = (j : Int) := ⟨_, (Int.toNat_of_nonneg i0).symm⟩
      have hj : j < ds.length := by rw [ej, List.length_map] at i1; omega
      refine ⟨.ref l2, rfl, .int n, rfl, .ref l2, rfl, l2, _, rfl, .inl hL, n, _, rfl, rfl, (by show (0 : Int) < ((ds.map V.int).length : Int); rw [List.length_map]; omega), l2, _, _, .int ds[j], rfl, rfl, hL, ?_, ?_⟩
      · rw [ej]
        exact atI_nat (by rw [List.getElem?_map, List.getElem?_eq_getElem hj]; rfl)
      -- the first seed
      refine ⟨ds[j], 3037000493, rfl, rfl, (show (0 : Int) < 3037000493 by decide), .int n, rfl, n, 1, rfl, rfl, 2862933555, n + 1, rfl, rfl, .inl ⟨by decide, by decide⟩, _, _, rfl, rfl, ?_⟩
      dsimp only
      generalize ds[j] % 3037000493 + 2862933555 * (n + 1) = s0
      -- the second
      have w1 : ∀ x : Int, 0 ≤ x % 3037000493 ∧ x % 3037000493 < 3037000493 := fun x => ⟨Int.emod_nonneg _ (by decide), Int.emod_lt_of_pos _ (by decide)⟩
      refine ⟨.int s0, rfl, s0, 3037000493, rfl, rfl, (show (0 : Int) < 3037000493 by decide), .int s0, rfl, s0, 65521, rfl, rfl, (show (0 : Int) < 65521 by decide), _, 7, rfl, rfl, _, _, rfl, rfl, .inl ⟨by have := w1 s0; omega, by have := w1 s0; omega⟩, _, 3037000493, rfl, rfl, (show (0 : Int) < 3037000493 by decide), ?_⟩
      dsimp only
      generalize hs1 : s0 % 3037000493 * (s0 % 65521 + 7) % 3037000493 = s1
      have w2 : 0 ≤ s1 ∧ s1 < 3037000493 := by rw [← hs1]; exact w1 _
      -- the third
      refine ⟨.int s1, rfl, .int s1, rfl, s1, s1, rfl, rfl, .inl ⟨by omega, by omega⟩, .int n, rfl, 30517, n, rfl, rfl, .inl ⟨by decide, by decide⟩, _, _, rfl, rfl, _, 3037000493, rfl, rfl, (show (0 : Int) < 3037000493 by decide), _, 1013904223, rfl, rfl, .inr ⟨by decide, by decide⟩, _, 3037000493, rfl, rfl, (show (0 : Int) < 3037000493 by decide), ?_⟩
      dsimp only
      generalize (s1 * s1 + 30517 * n) % 3037000493 * 1013904223 % 3037000493 = s2
      refine ⟨.int s2, rfl, s2, 8, rfl, rfl, ⟨by decide, by decide⟩, .int m, rfl, _, m, rfl, rfl, m0, q _ _ _ _ kp3 b3 (Int.emod_nonneg _ (by omega)) (Int.emod_lt_of_pos _ m0)⟩
theorem ok_opened {k : Nat} (F : Fun K "_law_opened" "_law_opened" sOpened f fd) (ma : mg "abs" = none) (mi : mg "int" = none) : FnOk P w K mg base (L2.CX P w) (k + 1) f fd ["_law_script"] (spOpened K) := by
  refine F.okX scOpened (fun vs H Q E h => ?_) (fun cdv A outer s H vs Q E hr h => ?_)
  · obtain ⟨a, ns, rfl, _⟩ := h
    rfl
  · have hu := hr.units
    have h1 := hu_of hr
    refine ⟨_, pss_cons (ps_setLc (i := 1) (own := [("_law_cell", 2)]) rfl scOpened.nd rfl rfl (by rfl) (pi_list (pe_slice sl_list (pv 0) po_none (po_some pe_int))) (blkOk_by (N := ["_law_script", "_law_cells", "_law_cell"]) (sc := defScope sOpened) (by decide +kernel))
        (fun _ _ _ _ _ => pg_name (i := 2) scOpened.nd rfl (.inl rfl)) (fun _ _ _ _ _ => pts_nil) (fun _ _ _ _ _ => pe_callB call_abs (by rfl) ma boot_abs (pa_cons (pv 2) pa_nil)))
      (pss_one (ps_ret (pe_disp (pps_cons pe_str (vn_lc (b := bg0) (W := noW) (own := [("_law_cell", 2)]) rfl scOpened.nd (vib_src (vx_var (pv 1))) (blkOk_by (N := ["_law_script", "_law_cells", "_law_cell"]) (sc := defScope sOpened) (by decide +kernel)) (by decide)
          (fun _ _ _ _ _ => vg_name (i := 2) scOpened.nd rfl (.inl rfl)) (fun _ _ _ _ _ => vts_one (vt_ge (vx_var (pv 2)) (VE.toX (ve_pow (VE.toX ve_int) (VE.toX ve_int))))) (fun _ _ _ _ _ => ve_var (pv 2)))
        (pps_cons pe_str (pe_op op_cat (pv 1) (pe_op op_rep (pe_lst (pa_cons pe_int pa_nil)) (pe_callTy call_int1 (by rfl) mi PySem.Pv.boot_int (pa_cons (pe_cmpR (op_eqP hu) (pv 1) (pe_lst pa_nil) (nomark _)) pa_nil))))
        (pps_cons pe_str pe_int pps_nil))) rfl rfl (by simp) (by decide)))), ?_⟩
    obtain ⟨a, ns, rfl, hS, hl, q⟩ := h
    -- the cells
    refine ⟨.ref a, rfl, 61, rfl, a, _, rfl, hS, fun p hp => ?_⟩
    obtain ⟨ms, ems, hms⟩ := cut_ints ns none (some 61)
    rw [ems]
    refine ⟨p, rfl, ⟨_, SqL.of upd_same⟩, fun D hD => ?_⟩
    have hz : ms.length ≤ 1000 := by omega
    have keep : ∀ {H1 H2 : Hp} {b : Addr} {o : HO}, (∀ c o, H1 c = some o → H2 c = some o) → H2 b = none → ∀ c o', H1 c = some o' → upd H2 b o c = some o' := fun {H1 H2 b o} k hn c o' e => by rw [upd_ne (ne_of_none (k c o' e) hn)]; exact k c o' e
    refine lc_list (xs := ms.map V.int) (fun i H' => (∀ c o, H c = some o → H' c = some o) ∧ H' p = some (.lst (ms.map V.int)) ∧ H D = none ∧ D ≠ p ∧ H' D = some (.lst (((ms.take i).map absI).map V.int))) ?_ (fun i H' _ h => SqL.of h.2.1) ?_ ?_
    · have np : D ≠ p := fun e => by rw [e, upd_same] at hD; cases hD
      refine ⟨keep (keep (fun _ _ e => e) hp) hD, by rw [upd_ne np.symm]; exact upd_same, ?_, np, by rw [upd_same]; rfl⟩
      rw [upd_ne np] at hD
      exact hD
    · intro i x H' hx ⟨k, e2, np, npp, e3⟩
      rw [List.getElem?_map] at hx
      cases em : ms[i]? with
      | none => rw [em] at hx; cases hx
      | some m =>
        rw [em] at hx
        cases hx
        have hi : i < ms.length := (List.getElem?_eq_some_iff.mp em).1
        have nd : ∀ c o, H c = some o → c ≠ D := fun c o e z => by rw [z, np] at e; cases e
        refine ⟨rfl, ?_⟩
        unfold tYes
        dsimp only
        rw [if_pos rfl]
        refine ⟨.int m, rfl, m, rfl, _, e3, ?_, fun c o e => ?_, ?_, np, npp, ?_⟩
        · rw [List.length_map, List.length_map, List.length_take]
          exact Nat.lt_of_le_of_lt (show min i ms.length ≤ 1000 by omega) (by decide)
        · rw [upd_ne (nd c o e)]
          exact k c o e
        · rw [upd_ne npp.symm]
          exact e2
        · rw [upd_same, List.take_add_one, em]
          simp
    · intro H1 ⟨k, e2, np, npp, e3⟩
      rw [List.length_map, List.take_length] at e3
      have hcs : (ms.map absI).length ≤ 63 := by rw [List.length_map]; omega
      generalize ms.map absI = cs at e3 hcs
      -- the dict: its lists
      refine fun r hr => ?_
      have nr : ∀ c o, H c = some o → c ≠ r := fun c o e z => by
        have := k c o e
        rw [z, hr] at this; cases this
      have hD1 : (upd H1 r (.dK [])) D = some (.lst (cs.map V.int)) := by rw [upd_ne (ne_of_none e3 hr)]; exact e3
      have k1 : ∀ c o, H c = some o → (upd H1 r (.dK [])) c = some o := keep k hr
      have Hr0 : H r = none := by
        cases e : H r with
        | none => rfl
        | some o => rw [k r o e] at hr; cases hr
      have hr1 : (upd H1 r (.dK [])) r = some (.dK []) := upd_same
      generalize upd H1 r (.dK []) = H2 at hD1 k1 hr1
      refine ⟨nz, nz, [.un, .shr (.py (.list (cs.map PyData.int))), .un], fun d => d = .py (.list ((bigs (10 ^ 18) cs).map PyData.int)), noE, VOk.plain rfl ?_, ⟨?_, _, .inl rfl, ?_⟩, fun v H3 d x3 g3 ⟨l1, e4, n1, ow⟩ ed => ?_, fun _ _ _ _ _ _ _ h => h⟩
      · intro i s hs
        match i, hs with
        | 0, hs => cases hs; exact .inl rfl
        | 1, hs => cases hs; exact .inr ⟨_, .ref D, rfl, rfl, Rq.lst hD1 not_false (.of_ints cs)⟩
        | 2, hs => cases hs; exact .inl rfl
      · intro i hi d e
        rw [List.mem_singleton.mp hi] at e
        cases e
      · refine bigs_go (k := 10 ^ 18) ?_ (fun ρ c Q E e q => ⟨_, .inl e, ⟨by decide, by decide, by decide⟩, _, rfl, q⟩) (fun ρ d Q E e q => ⟨d, e, q⟩) cs [] (by simp; omega) rfl
        show 2 < 3
        decide
      subst e4 ed
      obtain ⟨xs1, hl1, rq1⟩ := ow
      have ex1 := rq1.ints
      subst ex1
      have x3' : ∀ c o, H2 c = some o → H3 c = some o := fun c o e => x3 c o e not_false
      have D3 := x3' _ _ hD1
      have r3 := x3' _ _ hr1
      have nl1 : H2 l1 = none := n1
      -- the second list
      refine ⟨.ref D, rfl, Nat.succ_le_of_lt (by decide), fun p1 hp1 => ?_⟩
      refine ⟨.ref D, rfl, Nat.zero_le _, fun p2 hp2 => ?_⟩
      have k4 : ∀ c o, H3 c = some o → upd H3 p1 (.lst [.int 73]) c = some o := keep (fun _ _ e => e) hp1
      have k5 : ∀ c o, H3 c = some o → upd (upd H3 p1 (.lst [.int 73])) p2 (.lst []) c = some o := keep k4 hp2
      have p12 : p1 ≠ p2 := fun e => by rw [e, upd_same] at hp2; cases hp2
      have g1 : upd (upd H3 p1 (.lst [.int 73])) p2 (.lst []) p1 = some (.lst [.int 73]) := by rw [upd_ne p12]; exact upd_same
      refine ⟨.list (cs.map PyData.int), .list [], .lst (k5 _ _ D3) not_false (.of_ints cs), .lst upd_same not_false .nil, by simp only [PyData.plain]; exact plain_ints cs, rfl, .inr (by decide), .inr ⟨_, rfl, ?_⟩⟩
      have nD1 : D ≠ p1 := ne_of_none D3 hp1
      generalize hH4 : upd (upd H3 p1 (.lst [.int 73])) p2 (.lst []) = H4 at k5 g1
      refine ⟨p1, _, [.int 73], rfl, rfl, g1, ?_, ?_, ?_, fun p3 hp3 => ?_⟩
      · split <;> decide
      · split <;> decide
      · split <;> decide
      have n13 : p1 ≠ p3 := ne_of_none g1 hp3
      have nD3 : D ≠ p3 := ne_of_none (k5 _ _ D3) hp3
      refine ⟨D, p3, cs.map V.int, _, rfl, rfl, by rw [upd_ne nD3]; exact k5 _ _ D3, upd_same, ?_, fun l2 hl2 => ?_⟩
      · rw [List.length_map]
        have z : ∀ m : Nat, m ≤ 200 → m ≤ sizeLine := fun m h => Nat.le_trans h (by decide)
        refine z _ ?_
        split
        · show cs.length + 1 ≤ 200
          omega
        · show cs.length + 0 ≤ 200
          omega
      -- the end
      have k6 : ∀ c o, H3 c = some o → upd (upd H4 p3 (.lst (List.replicate (if (PyData.list (cs.map PyData.int)).eqv (.list []) = true then (1 : Int) else 0).toNat [V.int 73]).flatten)) l2 (.lst (cs.map V.int ++ (List.replicate (if (PyData.list (cs.map PyData.int)).eqv (.list []) = true then (1 : Int) else 0).toNat [V.int 73]).flatten)) c = some o := keep (keep k5 hp3) hl2
      obtain ⟨es, he, hne⟩ : ∃ es : List Int, cs.map V.int ++ (List.replicate (if (PyData.list (cs.map PyData.int)).eqv (.list []) = true then (1 : Int) else 0).toNat [V.int 73]).flatten = es.map V.int ∧ es ≠ [] := by
        cases cs with
        | nil => exact ⟨[73], rfl, by simp⟩
        | cons c cs => exact ⟨c :: cs, by show _ ++ [] = _; rw [List.append_nil], by simp⟩
      rw [he] at k6 ⊢
      generalize hH5 : upd (upd H4 p3 (.lst (List.replicate (if (PyData.list (cs.map PyData.int)).eqv (.list []) = true then (1 : Int) else 0).toNat [V.int 73]).flatten)) l2 (.lst (es.map V.int)) = H5 at k6
      have e5 : H5 l2 = some (.lst (es.map V.int)) := by rw [← hH5]; exact upd_same
      have nl12 : l1 ≠ l2 := ne_of_none (k5 _ _ hl1) (by
        cases e : H4 l2 with
        | none => rfl
        | some o =>
          have : (upd H4 p3 (.lst (List.replicate (if (PyData.list (cs.map PyData.int)).eqv (.list []) = true then (1 : Int) else 0).toNat [V.int 73]).flatten)) l2 ≠ none := by
            by_cases q : l2 = p3
            · rw [q, upd_same]; simp
            · rw [upd_ne q, e]; simp
          exact absurd hl2 this)
      have r5 := k6 _ _ r3
      have nz5 : ∀ c o, H c = some o → H5 c = some o := fun c o e => k6 c o (x3' c o (k1 c o e))
      have back : ∀ c, H5 c = none → H c = none := fun c e => by
        cases q : H c with
        | none => rfl
        | some o => rw [nz5 c o q] at e; cases e
      have o1 : H l1 = none := by
        cases q : H l1 with
        | none => rfl
        | some o => rw [k1 l1 o q] at nl1; cases nl1
      have o2 : H l2 = none := by
        cases q : H l2 with
        | none => rfl
        | some o =>
          have := k5 l2 o (x3' l2 o (k1 l2 o q))
          have e' : (upd H4 p3 (.lst (List.replicate (if (PyData.list (cs.map PyData.int)).eqv (.list []) = true then (1 : Int) else 0).toNat [V.int 73]).flatten)) l2 = some o := keep (fun _ _ e => e) hp3 l2 o this
          rw [hl2] at e'; cases e'
      refine ⟨r5, [(kG, .ref l1), (kC, .ref l2), (kN, .int 0)], rfl, (show 3 ≤ 15 by decide), ?_⟩
      have em : mergeK ([] : List (Key × V)) [(kG, .ref l1), (kC, .ref l2), (kN, .int 0)] = [(kG, .ref l1), (kC, .ref l2), (kN, .int 0)] := rfl
      rw [em]
      have nr1 : l1 ≠ r := fun e => by rw [e] at hl1; rw [r3] at hl1; cases hl1
      have nr2 : l2 ≠ r := fun e => by rw [e] at e5; rw [r5] at e5; cases e5
      refine q r l1 l2 (bigs (10 ^ 18) cs) es 0 _ (fun c o e => ?_) Hr0 o1 o2 ⟨upd_same, by rw [upd_ne nr1]; exact k6 _ _ hl1, by rw [upd_ne nr2]; exact e5, ?_, hne, nl12⟩
      · rw [upd_ne (nr c o e)]
        exact nz5 c o e
      · exact Nat.le_trans (List.length_filter_le _ _) hcs
theorem ok_pick {k : Nat} {cls : Str → Addr} {r l1 l2 : Addr} (F : Fun K "_law_pick" "_law_pick" sPick f fd) (FT : FnOk P w K mg base (L2.CX P w) k f2 fd2 ["_law_bag", "_law_many"] (spV (bagB cls r l1 l2) (svTake r))) (gT : mg "_law_take" = some (.ref f2)) (kT : PySem.W.keepIn K (.ref f2) = true) (bT : Binds K fd2 ["_law_bag", "_law_many"] []) (ml : mg "len" = none) :
    FnOk P w K mg base (L2.CX P w) (k + 1) f fd ["_law_bag", "_law_items"] (spV (bagB cls r l1 l2) (svPick r)) := by
  refine fnV F scPick (fun ds Q E h => by obtain ⟨p, xs, e, _⟩ := svPick_ex h; rw [e]; rfl) (by decide) (fun cdv A outer s H E hr tk => vs_one (vs_ret (ve_ix (vx_var (pv 1)) (VE.toX (ve_call FT hr tk (by rfl) gT kT bT (va_cons (ve_var (pv 0)) (va_cons (ve_len (by rfl) ml (vxs_cons (vx_var (pv 1)) vxs_nil)) va_nil))))))) ?_
  intro ds Q E hh
  obtain ⟨p, xs, rfl, hp, hne, hl, q⟩ := svPick_ex hh
  have hpos : 0 < xs.length := List.length_pos_iff.mpr hne
  have at_ : ∀ x : Int, 0 ≤ x → x < xs.length → ∃ d, atI xs x = some d ∧ d ∈ xs := fun x x0 x1 => by
    obtain ⟨j, rfl⟩ := Int.eq_ofNat_of_zero_le x0
    have hj : j < xs.length := by omega
    exact ⟨xs[j], atI_nat (List.getElem?_eq_getElem hj), List.getElem_mem hj⟩
  rcases hp with rfl | rfl | ⟨z, rfl, hz, rfl⟩
  · refine ⟨_, .inl rfl, _, rfl, _, .inl rfl, rfl, by omega, by omega, fun x x0 x1 => ?_⟩
    obtain ⟨d, e, m⟩ := at_ x x0 x1
    exact ⟨d, e, q d m⟩
  · refine ⟨_, .inl rfl, _, rfl, _, .inl rfl, rfl, by omega, by omega, fun x x0 x1 => ?_⟩
    obtain ⟨d, e, m⟩ := at_ x x0 x1
    exact ⟨d, e, q d m⟩
  · have el : (signsD z).length = z.length := by unfold signsD; rw [List.length_map, Array.length_toList]; rfl
    refine ⟨_, .inl rfl, _, rfl, _, .inl rfl, hz, rfl, by omega, by omega, fun x x0 x1 => ?_⟩
    obtain ⟨j, rfl⟩ := Int.eq_ofNat_of_zero_le x0
    have hj : j < z.cps.toList.length := by rw [Array.length_toList]; have : (j : Int) < z.cps.size := x1; omega
    refine ⟨hz, z.cps.toList[j], atI_nat (List.getElem?_eq_getElem hj), q _ ?_⟩
    unfold signsD
    exact List.mem_map.mpr ⟨_, List.getElem_mem hj, rfl⟩
end
end LawP
set_option Elab.async false
set_option linter.all false
set_option maxRecDepth 100000
set_option maxHeartbeats 4000000
namespace LawP
open PySem PySem.Spec PyProof.Rows L2 VL
theorem all_mk {l : PySem.W.OpenLaw} {w : World} {K : PySem.W.Frag} {h : Heap} {mg : Str → Option Value} {fa : Addr} (X : K.In h) (G : h.Ns mainGlobals mg) (hfa : mg "law" = some (.ref fa))
    (d27 : DefK K "_law_opened" (topS 27)) (d28 : DefK K "_law_take" (topS 28)) (d29 : DefK K "_law_pick" (topS 29)) (d30 : DefK K "_law_drawn" (topS 30)) (d33 : DefK K "_law_spaced" (topS 33)) (d31 : DefK K "_law_word" (topS 31)) (d34 : DefK K "_law_shortened" (topS 34)) (d39 : DefK K "_law_changed" (topS 39)) (d32 : DefK K "_law_number" (topS 32)) (d35 : DefK K "_law_row_of" (topS 35)) (d36 : DefK K "_law_persons_of" (topS 36)) (d37 : DefK K "_law_word_of" (topS 37)) (d20 : DefK K "check_string" (topS 20)) (d19 : DefK K "read_integer" (topS 19)) (d12 : DefK K "is_integer" (topS 12)) (d13 : DefK K "is_group" (topS 13)) (d21 : DefK K "parse_row" (topS 21)) (d22 : DefK K "parse_persons" (topS 22)) (d24 : DefK K "stretches_in" (topS 24)) (d23 : DefK K "short_word" (topS 23)) (d25 : DefK K "long_word" (topS 25)) (d38 : DefK K "_law_found" (topS 38)) (d40 : DefK K "law" (topS 40))
    {t0 : Tok} (m0 : PySem.W.nsIn K mainGlobals "LONGEST" = some (some (.int 20 t0))) {t1 : Tok} (m1 : PySem.W.nsIn K mainGlobals "DIGITS" = some (some (.str "0123456789" t1))) {t2 : Tok} (m2 : PySem.W.nsIn K mainGlobals "MAX_GROUP" = some (some (.int 1000000000 t2))) {t3 : Tok} (m3 : PySem.W.nsIn K mainGlobals "MAX_PEOPLE" = some (some (.int 40 t3))) {t4 : Tok} (m4 : PySem.W.nsIn K mainGlobals "NONE" = some (some (.str "none" t4))) {t5 : Tok} (m5 : PySem.W.nsIn K mainGlobals "ARRIVAL" = some (some (.str "a" t5))) {t6 : Tok} (m6 : PySem.W.nsIn K mainGlobals "SERVICE" = some (some (.str "s" t6))) {t7 : Tok} (m7 : PySem.W.nsIn K mainGlobals "EMPTY" = some (some (.str "-" t7)))
    (z_range : PySem.W.nsIn K mainGlobals "range" = some none) (z_tuple : PySem.W.nsIn K mainGlobals "tuple" = some none) (z_str : PySem.W.nsIn K mainGlobals "str" = some none) (z_int : PySem.W.nsIn K mainGlobals "int" = some none) (z_len : PySem.W.nsIn K mainGlobals "len" = some none) (z_enumerate : PySem.W.nsIn K mainGlobals "enumerate" = some none) (z_isinstance : PySem.W.nsIn K mainGlobals "isinstance" = some none) (z_all : PySem.W.nsIn K mainGlobals "all" = some none) (z_bool : PySem.W.nsIn K mainGlobals "bool" = some none) (z_ValueError : PySem.W.nsIn K mainGlobals "ValueError" = some none) (z_repr : PySem.W.nsIn K mainGlobals "repr" = some none) (z_abs : PySem.W.nsIn K mainGlobals "abs" = some none) (R_BadText : Rai1 K "BadText" "BadText.__init__" "index" s_BadText) (Q_LineError : TstK K "LineError") (Q_Rejected : TstK K "Rejected") (Q_NoIndex : TstK K "NoIndex") (Q_BadCount : TstK K "BadCount") (Q_BadBatch : TstK K "BadBatch") (Q_BadText : TstK K "BadText") (S_BadText_LineError : SubK K "BadText" "LineError") (S_BadText_Rejected : SubK K "BadText" "Rejected") (S_BadText_NoIndex : SubK K "BadText" "NoIndex") (S_BadText_BadCount : SubK K "BadText" "BadCount") (S_BadText_BadBatch : SubK K "BadText" "BadBatch") (S_BadText_BadText : SubK K "BadText" "BadText") :
    ∃ fd : FuncData, (∀ (s : Shared) (v : Value), BindsTo s fd ⟨[v], []⟩ [("_law_script", v)]) ∧ ∀ base : Heap, K.In base → base.Ns mainGlobals mg → FnG l.prog w K mg base 6 fa fd ["_law_script"] (spLaw K) := by
  obtain ⟨f40, oc, kV, doc, pm, cdv, ct, od, an, osl, a, ql, qc, qp⟩ := d40.ex
  have e := hfa.symm.trans (PySem.W.mg_of X G a)
  cases e
  have y_range := PySem.W.mg_none_of X G z_range
  have y_tuple := PySem.W.mg_none_of X G z_tuple
  have y_str := PySem.W.mg_none_of X G z_str
  have y_int := PySem.W.mg_none_of X G z_int
  have y_len := PySem.W.mg_none_of X G z_len
  have y_enumerate := PySem.W.mg_none_of X G z_enumerate
  have y_isinstance := PySem.W.mg_none_of X G z_isinstance
  have y_all := PySem.W.mg_none_of X G z_all
  have y_bool := PySem.W.mg_none_of X G z_bool
  have y_ValueError := PySem.W.mg_none_of X G z_ValueError
  have y_repr := PySem.W.mg_none_of X G z_repr
  have y_abs := PySem.W.mg_none_of X G z_abs
  have c0 := PySem.W.mg_of X G m0
  have c1 := PySem.W.mg_of X G m1
  have c2 := PySem.W.mg_of X G m2
  have c3 := PySem.W.mg_of X G m3
  have c4 := PySem.W.mg_of X G m4
  have c5 := PySem.W.mg_of X G m5
  have c6 := PySem.W.mg_of X G m6
  have c7 := PySem.W.mg_of X G m7
  obtain ⟨f27, v27, F27, g27, p27, e27⟩ := d27.use X G
  have B27 := F27.binds (ps := ["_law_script"]) fun _ _ _ _ _ _ us hl => match us, hl with | [_], _ => rfl
  obtain ⟨f28, v28, F28, g28, p28, e28⟩ := d28.use X G
  have B28 := F28.binds (ps := ["_law_bag", "_law_many"]) fun _ _ _ _ _ _ us hl => match us, hl with | [_, _], _ => rfl
  obtain ⟨f29, v29, F29, g29, p29, e29⟩ := d29.use X G
  have B29 := F29.binds (ps := ["_law_bag", "_law_items"]) fun _ _ _ _ _ _ us hl => match us, hl with | [_, _], _ => rfl
  obtain ⟨f30, v30, F30, g30, p30, e30⟩ := d30.use X G
  have B30 := F30.binds (ps := ["_law_bag", "_law_most"]) fun _ _ _ _ _ _ us hl => match us, hl with | [_, _], _ => rfl
  obtain ⟨f33, v33, F33, g33, p33, e33⟩ := d33.use X G
  have B33 := F33.binds (ps := ["_law_items"]) fun _ _ _ _ _ _ us hl => match us, hl with | [_], _ => rfl
  obtain ⟨f31, v31, F31, g31, p31, e31⟩ := d31.use X G
  have B31 := F31.binds (ps := ["_law_bag", "_law_many", "_law_way"]) fun _ _ _ _ _ _ us hl => match us, hl with | [_, _, _], _ => rfl
  obtain ⟨f34, v34, F34, g34, p34, e34⟩ := d34.use X G
  have B34 := F34.binds (ps := ["_law_word_here"]) fun _ _ _ _ _ _ us hl => match us, hl with | [_], _ => rfl
  obtain ⟨f39, v39, F39, g39, p39, e39⟩ := d39.use X G
  have B39 := F39.binds (ps := ["_law_bag", "_law_text"]) fun _ _ _ _ _ _ us hl => match us, hl with | [_, _], _ => rfl
  obtain ⟨f32, v32, F32, g32, p32, e32⟩ := d32.use X G
  have B32 := F32.binds (ps := ["_law_part"]) fun _ _ _ _ _ _ us hl => match us, hl with | [_], _ => rfl
  obtain ⟨f35, v35, F35, g35, p35, e35⟩ := d35.use X G
  have B35 := F35.binds (ps := ["_law_text"]) fun _ _ _ _ _ _ us hl => match us, hl with | [_], _ => rfl
  obtain ⟨f36, v36, F36, g36, p36, e36⟩ := d36.use X G
  have B36 := F36.binds (ps := ["_law_many", "_law_text"]) fun _ _ _ _ _ _ us hl => match us, hl with | [_, _], _ => rfl
  obtain ⟨f37, v37, F37, g37, p37, e37⟩ := d37.use X G
  have B37 := F37.binds (ps := ["_law_text"]) fun _ _ _ _ _ _ us hl => match us, hl with | [_], _ => rfl
  obtain ⟨f20, v20, F20, g20, p20, e20⟩ := d20.use X G
  have B20 := F20.binds (ps := ["value"]) fun _ _ _ _ _ _ us hl => match us, hl with | [_], _ => rfl
  obtain ⟨f19, v19, F19, g19, p19, e19⟩ := d19.use X G
  have B19 := F19.binds (ps := ["word"]) fun _ _ _ _ _ _ us hl => match us, hl with | [_], _ => rfl
  obtain ⟨f12, v12, F12, g12, p12, e12⟩ := d12.use X G
  have B12 := F12.binds (ps := ["value", "low", "high"]) fun _ _ _ _ _ _ us hl => match us, hl with | [_, _, _], _ => rfl
  obtain ⟨f13, v13, F13, g13, p13, e13⟩ := d13.use X G
  have B13 := F13.binds (ps := ["value"]) fun _ _ _ _ _ _ us hl => match us, hl with | [_], _ => rfl
  obtain ⟨f21, v21, F21, g21, p21, e21⟩ := d21.use X G
  have B21 := F21.binds (ps := ["value"]) fun _ _ _ _ _ _ us hl => match us, hl with | [_], _ => rfl
  obtain ⟨f22, v22, F22, g22, p22, e22⟩ := d22.use X G
  have B22 := F22.binds (ps := ["row", "value"]) fun _ _ _ _ _ _ us hl => match us, hl with | [_, _], _ => rfl
  obtain ⟨f24, v24, F24, g24, p24, e24⟩ := d24.use X G
  have B24 := F24.binds (ps := ["value"]) fun _ _ _ _ _ _ us hl => match us, hl with | [_], _ => rfl
  obtain ⟨f23, v23, F23, g23, p23, e23⟩ := d23.use X G
  have B23 := F23.binds (ps := ["word"]) fun _ _ _ _ _ _ us hl => match us, hl with | [_], _ => rfl
  obtain ⟨f25, v25, F25, g25, p25, e25⟩ := d25.use X G
  have B25 := F25.binds (ps := ["value"]) fun _ _ _ _ _ _ us hl => match us, hl with | [_], _ => rfl
  obtain ⟨f38, v38, F38, g38, p38, e38⟩ := d38.use X G
  have B38 := F38.binds (ps := ["_law_way", "_law_row", "_law_value"]) fun _ _ _ _ _ _ us hl => match us, hl with | [_, _, _], _ => rfl
  obtain ⟨C_BadText, R_BadText⟩ := R_BadText.ex
  have k_BadText : (clsOf [("BadText", C_BadText)] fa) "BadText" = C_BadText := clsOf_hd
  refine ⟨PySem.W.fnOf "law" "law" (defArgs (topS 40)) (defBody (topS 40)) (defScope (topS 40)) .none kV doc pm an cdv ct, fun s v => .of_eq rfl, fun base _ _ => ?_⟩
  have O28 : FnOk l.prog w K mg base (L2.CX l.prog w) 1 f28 v28 ["_law_bag", "_law_many"] spTake := ok_take F28 y_len
  have O27 : FnOk l.prog w K mg base (L2.CX l.prog w) 1 f27 v27 ["_law_script"] (spOpened K) := ok_opened (k := 0) F27 y_abs y_int
  refine lawV (cls := (clsOf [("BadText", C_BadText)] fa)) (i := 1) (k := 5) (t := fun r => t_law (S_law_drawn r) (S_law_word r) (svTake r) S_x_spaced S_law_shortened (S_law_changed r) (svPick r) S_law_row_of S_law_persons_of S_law_word_of S_law_found) (fun_mk (st := topS 40) ql qc qp) sc_law rfl O27 g27 p27 B27 (by omega) rfl rfl (by first | exact .inl rfl | exact .inr rfl) rfl rfl (fun r l1 l2 cdv A outer s H E hr hgd tk => ?_) l_law
  have RI_BadText : RaiI K ((bagB (clsOf [("BadText", C_BadText)] fa) r l1 l2).cls "BadText") "BadText" "BadText.__init__" "index" s_BadText := by
    show RaiI K ((clsOf [("BadText", C_BadText)] fa) "BadText") _ _ _ _
    rw [k_BadText]; exact R_BadText
  have RB_BadText := RI_BadText.b
  obtain ⟨M_BadText⟩ := RI_BadText.mk1 (P := l.prog) (w := w) (base := base) (prm := "index") X G (fun fa fd F => wi_BadText F) (fun _ _ _ _ _ _ us hl => match us, hl with | [_, _], _ => rfl)
  have EB : ∀ n ∈ (["BadText"] : List Str), RaiB K ((bagB (clsOf [("BadText", C_BadText)] fa) r l1 l2).cls n) n := fun n hn => by
    simp only [List.mem_cons, List.not_mem_nil, or_false] at hn
    rcases hn with rfl
    · exact RB_BadText
  have EC : ∀ n ∈ (["BadText"] : List Str), ErrC K ((bagB (clsOf [("BadText", C_BadText)] fa) r l1 l2).cls n) := fun n hn => (EB n hn).ec
  have EV := errV EB
  have T_LineError : ErrT K mg (bagB (clsOf [("BadText", C_BadText)] fa) r l1 l2) ["BadText"] "LineError" := errT X G Q_LineError (fun n hn => by
    simp only [List.mem_cons, List.not_mem_nil, or_false] at hn
    rcases hn with rfl
    · exact ⟨S_BadText_LineError, RB_BadText⟩)
  have T_Rejected : ErrT K mg (bagB (clsOf [("BadText", C_BadText)] fa) r l1 l2) ["BadText"] "Rejected" := errT X G Q_Rejected (fun n hn => by
    simp only [List.mem_cons, List.not_mem_nil, or_false] at hn
    rcases hn with rfl
    · exact ⟨S_BadText_Rejected, RB_BadText⟩)
  have T_NoIndex : ErrT K mg (bagB (clsOf [("BadText", C_BadText)] fa) r l1 l2) ["BadText"] "NoIndex" := errT X G Q_NoIndex (fun n hn => by
    simp only [List.mem_cons, List.not_mem_nil, or_false] at hn
    rcases hn with rfl
    · exact ⟨S_BadText_NoIndex, RB_BadText⟩)
  have T_BadCount : ErrT K mg (bagB (clsOf [("BadText", C_BadText)] fa) r l1 l2) ["BadText"] "BadCount" := errT X G Q_BadCount (fun n hn => by
    simp only [List.mem_cons, List.not_mem_nil, or_false] at hn
    rcases hn with rfl
    · exact ⟨S_BadText_BadCount, RB_BadText⟩)
  have T_BadBatch : ErrT K mg (bagB (clsOf [("BadText", C_BadText)] fa) r l1 l2) ["BadText"] "BadBatch" := errT X G Q_BadBatch (fun n hn => by
    simp only [List.mem_cons, List.not_mem_nil, or_false] at hn
    rcases hn with rfl
    · exact ⟨S_BadText_BadBatch, RB_BadText⟩)
  have T_BadText : ErrT K mg (bagB (clsOf [("BadText", C_BadText)] fa) r l1 l2) ["BadText"] "BadText" := errT X G Q_BadText (fun n hn => by
    simp only [List.mem_cons, List.not_mem_nil, or_false] at hn
    rcases hn with rfl
    · exact ⟨S_BadText_BadText, RB_BadText⟩)
  have FE_index : ∀ n ∈ (["BadText"] : List Str), FldC K ((bagB (clsOf [("BadText", C_BadText)] fa) r l1 l2).cls n) "index" := fun n hn => by
    simp only [List.mem_cons, List.not_mem_nil, or_false] at hn
    rcases hn with rfl
    · exact RI_BadText.fld
  have T28 := take_v (cls := (clsOf [("BadText", C_BadText)] fa)) (r := r) (l1 := l1) (l2 := l2) O28
  have C28 : Cal l.prog w K mg base (bagB (clsOf [("BadText", C_BadText)] fa) r l1 l2) 1 "_law_take" ["_law_bag", "_law_many"] (svTake r) := ⟨f28, v28, T28, g28, p28, B28⟩
  have C29 : Cal l.prog w K mg base (bagB (clsOf [("BadText", C_BadText)] fa) r l1 l2) 2 "_law_pick" ["_law_bag", "_law_items"] (svPick r) := ⟨f29, v29, ok_pick F29 T28 g28 p28 B28 y_len, g29, p29, B29⟩
  have C30 : Cal l.prog w K mg base (bagB (clsOf [("BadText", C_BadText)] fa) r l1 l2) 3 "_law_drawn" ["_law_bag", "_law_most"] (S_law_drawn r) := ⟨f30, v30, w_law_drawn F30 C28 C29 y_range y_tuple (fun ds Q E h => by first | (simp only [S_law_drawn] at h; split at h <;> first | rfl | exact h.elim) | (obtain ⟨rfl, _⟩ := h; rfl) | (obtain ⟨_, rfl, _⟩ := h; rfl) | (obtain ⟨_, _, rfl, _⟩ := h; rfl) | (obtain ⟨_, _, _, rfl, _⟩ := h; rfl) | (obtain ⟨_, _, _, _, rfl, _⟩ := h; rfl)) (l_law_drawn r), g30, p30, B30⟩
  have C33 : Cal l.prog w K mg base (bagB (clsOf [("BadText", C_BadText)] fa) r l1 l2) 1 "_law_spaced" ["_law_items"] S_x_spaced := ⟨f33, v33, w_x_spaced F33 y_str (fun ds Q E h => by first | (simp only [S_x_spaced] at h; split at h <;> first | rfl | exact h.elim) | (obtain ⟨rfl, _⟩ := h; rfl) | (obtain ⟨_, rfl, _⟩ := h; rfl) | (obtain ⟨_, _, rfl, _⟩ := h; rfl) | (obtain ⟨_, _, _, rfl, _⟩ := h; rfl) | (obtain ⟨_, _, _, _, rfl, _⟩ := h; rfl)) l_x_spaced, g33, p33, B33⟩
  have C31 : Cal l.prog w K mg base (bagB (clsOf [("BadText", C_BadText)] fa) r l1 l2) 2 "_law_word" ["_law_bag", "_law_many", "_law_way"] (S_law_word r) := ⟨f31, v31, w_law_word F31 C28 y_int (fun ds Q E h => by first | (simp only [S_law_word] at h; split at h <;> first | rfl | exact h.elim) | (obtain ⟨rfl, _⟩ := h; rfl) | (obtain ⟨_, rfl, _⟩ := h; rfl) | (obtain ⟨_, _, rfl, _⟩ := h; rfl) | (obtain ⟨_, _, _, rfl, _⟩ := h; rfl) | (obtain ⟨_, _, _, _, rfl, _⟩ := h; rfl)) (l_law_word r), g31, p31, B31⟩
  have C34 : Cal l.prog w K mg base (bagB (clsOf [("BadText", C_BadText)] fa) r l1 l2) 1 "_law_shortened" ["_law_word_here"] S_law_shortened := ⟨f34, v34, w_law_shortened F34 y_range y_len y_str (fun ds Q E h => by first | (simp only [S_law_shortened] at h; split at h <;> first | rfl | exact h.elim) | (obtain ⟨rfl, _⟩ := h; rfl) | (obtain ⟨_, rfl, _⟩ := h; rfl) | (obtain ⟨_, _, rfl, _⟩ := h; rfl) | (obtain ⟨_, _, _, rfl, _⟩ := h; rfl) | (obtain ⟨_, _, _, _, rfl, _⟩ := h; rfl)) l_law_shortened, g34, p34, B34⟩
  have C39 : Cal l.prog w K mg base (bagB (clsOf [("BadText", C_BadText)] fa) r l1 l2) 3 "_law_changed" ["_law_bag", "_law_text"] (S_law_changed r) := ⟨f39, v39, w_law_changed F39 C28 C29 C33 y_len (fun ds Q E h => by first | (simp only [S_law_changed] at h; split at h <;> first | rfl | exact h.elim) | (obtain ⟨rfl, _⟩ := h; rfl) | (obtain ⟨_, rfl, _⟩ := h; rfl) | (obtain ⟨_, _, rfl, _⟩ := h; rfl) | (obtain ⟨_, _, _, rfl, _⟩ := h; rfl) | (obtain ⟨_, _, _, _, rfl, _⟩ := h; rfl)) (l_law_changed r), g39, p39, B39⟩
  have C32 : Cal l.prog w K mg base (bagB (clsOf [("BadText", C_BadText)] fa) r l1 l2) 1 "_law_number" ["_law_part"] S_law_number := ⟨f32, v32, w_law_number F32 y_len y_int (fun ds Q E h => by first | (simp only [S_law_number] at h; split at h <;> first | rfl | exact h.elim) | (obtain ⟨rfl, _⟩ := h; rfl) | (obtain ⟨_, rfl, _⟩ := h; rfl) | (obtain ⟨_, _, rfl, _⟩ := h; rfl) | (obtain ⟨_, _, _, rfl, _⟩ := h; rfl) | (obtain ⟨_, _, _, _, rfl, _⟩ := h; rfl)) l_law_number, g32, p32, B32⟩
  have C35 : Cal l.prog w K mg base (bagB (clsOf [("BadText", C_BadText)] fa) r l1 l2) 2 "_law_row_of" ["_law_text"] S_law_row_of := ⟨f35, v35, w_law_row_of F35 C32 y_enumerate y_tuple (fun ds Q E h => by first | (simp only [S_law_row_of] at h; split at h <;> first | rfl | exact h.elim) | (obtain ⟨rfl, _⟩ := h; rfl) | (obtain ⟨_, rfl, _⟩ := h; rfl) | (obtain ⟨_, _, rfl, _⟩ := h; rfl) | (obtain ⟨_, _, _, rfl, _⟩ := h; rfl) | (obtain ⟨_, _, _, _, rfl, _⟩ := h; rfl)) l_law_row_of, g35, p35, B35⟩
  have C36 : Cal l.prog w K mg base (bagB (clsOf [("BadText", C_BadText)] fa) r l1 l2) 2 "_law_persons_of" ["_law_many", "_law_text"] S_law_persons_of := ⟨f36, v36, w_law_persons_of F36 C32 y_enumerate y_tuple (fun ds Q E h => by first | (simp only [S_law_persons_of] at h; split at h <;> first | rfl | exact h.elim) | (obtain ⟨rfl, _⟩ := h; rfl) | (obtain ⟨_, rfl, _⟩ := h; rfl) | (obtain ⟨_, _, rfl, _⟩ := h; rfl) | (obtain ⟨_, _, _, rfl, _⟩ := h; rfl) | (obtain ⟨_, _, _, _, rfl, _⟩ := h; rfl)) l_law_persons_of, g36, p36, B36⟩
  have C37 : Cal l.prog w K mg base (bagB (clsOf [("BadText", C_BadText)] fa) r l1 l2) 1 "_law_word_of" ["_law_text"] S_law_word_of := ⟨f37, v37, w_law_word_of F37 y_len y_int (fun ds Q E h => by first | (simp only [S_law_word_of] at h; split at h <;> first | rfl | exact h.elim) | (obtain ⟨rfl, _⟩ := h; rfl) | (obtain ⟨_, rfl, _⟩ := h; rfl) | (obtain ⟨_, _, rfl, _⟩ := h; rfl) | (obtain ⟨_, _, _, rfl, _⟩ := h; rfl) | (obtain ⟨_, _, _, _, rfl, _⟩ := h; rfl)) l_law_word_of, g37, p37, B37⟩
  have C20 : Cal l.prog w K mg base (bagB (clsOf [("BadText", C_BadText)] fa) r l1 l2) 3 "check_string" ["value"] S_check_string := ⟨f20, v20, w_check_string F20 y_isinstance y_str M_BadText (fun ds Q E h => by first | (simp only [S_check_string] at h; split at h <;> first | rfl | exact h.elim) | (obtain ⟨rfl, _⟩ := h; rfl) | (obtain ⟨_, rfl, _⟩ := h; rfl) | (obtain ⟨_, _, rfl, _⟩ := h; rfl) | (obtain ⟨_, _, _, rfl, _⟩ := h; rfl) | (obtain ⟨_, _, _, _, rfl, _⟩ := h; rfl)) l_check_string, g20, p20, B20⟩
  have C19 : Cal l.prog w K mg base (bagB (clsOf [("BadText", C_BadText)] fa) r l1 l2) 1 "read_integer" ["word"] S_read_integer := ⟨f19, v19, w_read_integer F19 ⟨_, c0⟩ ⟨_, c1⟩ y_len y_all y_int (fun ds Q E h => by first | (simp only [S_read_integer] at h; split at h <;> first | rfl | exact h.elim) | (obtain ⟨rfl, _⟩ := h; rfl) | (obtain ⟨_, rfl, _⟩ := h; rfl) | (obtain ⟨_, _, rfl, _⟩ := h; rfl) | (obtain ⟨_, _, _, rfl, _⟩ := h; rfl) | (obtain ⟨_, _, _, _, rfl, _⟩ := h; rfl)) l_read_integer, g19, p19, B19⟩
  have C12 : Cal l.prog w K mg base (bagB (clsOf [("BadText", C_BadText)] fa) r l1 l2) 1 "is_integer" ["value", "low", "high"] S_is_integer := ⟨f12, v12, w_is_integer F12 y_isinstance y_bool y_int (fun ds Q E h => by first | (simp only [S_is_integer] at h; split at h <;> first | rfl | exact h.elim) | (obtain ⟨rfl, _⟩ := h; rfl) | (obtain ⟨_, rfl, _⟩ := h; rfl) | (obtain ⟨_, _, rfl, _⟩ := h; rfl) | (obtain ⟨_, _, _, rfl, _⟩ := h; rfl) | (obtain ⟨_, _, _, _, rfl, _⟩ := h; rfl)) l_is_integer, g12, p12, B12⟩
  have C13 : Cal l.prog w K mg base (bagB (clsOf [("BadText", C_BadText)] fa) r l1 l2) 2 "is_group" ["value"] S_is_group := ⟨f13, v13, w_is_group F13 C12 ⟨_, c2⟩ (fun ds Q E h => by first | (simp only [S_is_group] at h; split at h <;> first | rfl | exact h.elim) | (obtain ⟨rfl, _⟩ := h; rfl) | (obtain ⟨_, rfl, _⟩ := h; rfl) | (obtain ⟨_, _, rfl, _⟩ := h; rfl) | (obtain ⟨_, _, _, rfl, _⟩ := h; rfl) | (obtain ⟨_, _, _, _, rfl, _⟩ := h; rfl)) l_is_group, g13, p13, B13⟩
  have C21 : Cal l.prog w K mg base (bagB (clsOf [("BadText", C_BadText)] fa) r l1 l2) 4 "parse_row" ["value"] S_parse_row := ⟨f21, v21, w_parse_row F21 C20 C19 C13 ⟨_, c3⟩ y_enumerate y_tuple M_BadText (fun ds Q E h => by first | (simp only [S_parse_row] at h; split at h <;> first | rfl | exact h.elim) | (obtain ⟨rfl, _⟩ := h; rfl) | (obtain ⟨_, rfl, _⟩ := h; rfl) | (obtain ⟨_, _, rfl, _⟩ := h; rfl) | (obtain ⟨_, _, _, rfl, _⟩ := h; rfl) | (obtain ⟨_, _, _, _, rfl, _⟩ := h; rfl)) l_parse_row, g21, p21, B21⟩
  have C22 : Cal l.prog w K mg base (bagB (clsOf [("BadText", C_BadText)] fa) r l1 l2) 4 "parse_persons" ["row", "value"] S_parse_persons := ⟨f22, v22, w_parse_persons F22 C20 C19 C12 ⟨_, c4⟩ ⟨_, c3⟩ y_enumerate y_len y_tuple M_BadText (fun ds Q E h => by first | (simp only [S_parse_persons] at h; split at h <;> first | rfl | exact h.elim) | (obtain ⟨rfl, _⟩ := h; rfl) | (obtain ⟨_, rfl, _⟩ := h; rfl) | (obtain ⟨_, _, rfl, _⟩ := h; rfl) | (obtain ⟨_, _, _, rfl, _⟩ := h; rfl) | (obtain ⟨_, _, _, _, rfl, _⟩ := h; rfl)) l_parse_persons, g22, p22, B22⟩
  have C24 : Cal l.prog w K mg base (bagB (clsOf [("BadText", C_BadText)] fa) r l1 l2) 1 "stretches_in" ["value"] S_stretches_in := ⟨f24, v24, w_stretches_in F24 ⟨_, c5⟩ ⟨_, c6⟩ ⟨_, c1⟩ y_len (fun ds Q E h => by first | (simp only [S_stretches_in] at h; split at h <;> first | rfl | exact h.elim) | (obtain ⟨rfl, _⟩ := h; rfl) | (obtain ⟨_, rfl, _⟩ := h; rfl) | (obtain ⟨_, _, rfl, _⟩ := h; rfl) | (obtain ⟨_, _, _, rfl, _⟩ := h; rfl) | (obtain ⟨_, _, _, _, rfl, _⟩ := h; rfl)) l_stretches_in, g24, p24, B24⟩
  have C23 : Cal l.prog w K mg base (bagB (clsOf [("BadText", C_BadText)] fa) r l1 l2) 1 "short_word" ["word"] S_short_word := ⟨f23, v23, w_short_word F23 ⟨_, c7⟩ y_len y_str (fun ds Q E h => by first | (simp only [S_short_word] at h; split at h <;> first | rfl | exact h.elim) | (obtain ⟨rfl, _⟩ := h; rfl) | (obtain ⟨_, rfl, _⟩ := h; rfl) | (obtain ⟨_, _, rfl, _⟩ := h; rfl) | (obtain ⟨_, _, _, rfl, _⟩ := h; rfl) | (obtain ⟨_, _, _, _, rfl, _⟩ := h; rfl)) l_short_word, g23, p23, B23⟩
  have C25 : Cal l.prog w K mg base (bagB (clsOf [("BadText", C_BadText)] fa) r l1 l2) 4 "long_word" ["value"] S_long_word := ⟨f25, v25, w_long_word F25 C20 C24 C23 ⟨_, c7⟩ ⟨_, c3⟩ y_int y_len M_BadText (fun ds Q E h => by first | (simp only [S_long_word] at h; split at h <;> first | rfl | exact h.elim) | (obtain ⟨rfl, _⟩ := h; rfl) | (obtain ⟨_, rfl, _⟩ := h; rfl) | (obtain ⟨_, _, rfl, _⟩ := h; rfl) | (obtain ⟨_, _, _, rfl, _⟩ := h; rfl) | (obtain ⟨_, _, _, _, rfl, _⟩ := h; rfl)) l_long_word, g25, p25, B25⟩
  have C38 : Cal l.prog w K mg base (bagB (clsOf [("BadText", C_BadText)] fa) r l1 l2) 5 "_law_found" ["_law_way", "_law_row", "_law_value"] S_law_found := ⟨f38, v38, w_law_found F38 C21 C22 C25 y_isinstance y_ValueError T_LineError T_Rejected T_NoIndex T_BadCount T_BadBatch EC EV T_BadText FE_index (fun ds Q E h => by first | (simp only [S_law_found] at h; split at h <;> first | rfl | exact h.elim) | (obtain ⟨rfl, _⟩ := h; rfl) | (obtain ⟨_, rfl, _⟩ := h; rfl) | (obtain ⟨_, _, rfl, _⟩ := h; rfl) | (obtain ⟨_, _, _, rfl, _⟩ := h; rfl) | (obtain ⟨_, _, _, _, rfl, _⟩ := h; rfl)) l_law_found, g38, p38, B38⟩
  exact w_law C30 C31 C28 C33 C34 C39 C29 C35 C36 C37 C38 y_range y_len y_repr cdv A outer s H E hr hgd tk
end LawP
set_option linter.all false
set_option maxRecDepth 100000
set_option maxHeartbeats 0
open PySem PySem.W PyProof.Rows in
theorem PySem.Challenge.cw_matesline_k72_other_texts_refused_holds : PySem.Challenge.rw_matesline_k72_other_texts_refused.Holds := by
  w_on; o_law; k_head; (case hw => w_witness2)
  k_fill
  refine VL.walkG (l := PySem.Challenge.rw_matesline_k72_other_texts_refused) (n := 63) (k := 6) (x := "_law_script") (sp := fun w => VL.spLaw _) rfl (by decide) rfl ⟨rfl, by decide, by decide⟩ (fun w h Y => PySem.W.kIn_of Y) ?F (fun _ _ a ns hl _ hS => ⟨a, ns, rfl, hS, hl, fun _ => rfl⟩)
  case F =>
    intro w mg fa h KX G hmg
    refine' LawP.all_mk KX G hmg ?d27 ?d28 ?d29 ?d30 ?d33 ?d31 ?d34 ?d39 ?d32 ?d35 ?d36 ?d37 ?d20 ?d19 ?d12 ?d13 ?d21 ?d22 ?d24 ?d23 ?d25 ?d38 ?d40 ?m0 ?m1 ?m2 ?m3 ?m4 ?m5 ?m6 ?m7 ?z0 ?z1 ?z2 ?z3 ?z4 ?z5 ?z6 ?z7 ?z8 ?z9 ?z10 ?z11 ?r0 ?q0 ?q1 ?q2 ?q3 ?q4 ?q5 ?s0 ?s1 ?s2 ?s3 ?s4 ?s5
    (case d27 => refine' VL.defK ?a ?l ?c ?k; (case a => k_is); (case l => k_is); (case c => k_is); (case k => k_is))
    (case d28 => refine' VL.defK ?a ?l ?c ?k; (case a => k_is); (case l => k_is); (case c => k_is); (case k => k_is))
    (case d29 => refine' VL.defK ?a ?l ?c ?k; (case a => k_is); (case l => k_is); (case c => k_is); (case k => k_is))
    (case d30 => refine' VL.defK ?a ?l ?c ?k; (case a => k_is); (case l => k_is); (case c => k_is); (case k => k_is))
    (case d33 => refine' VL.defK ?a ?l ?c ?k; (case a => k_is); (case l => k_is); (case c => k_is); (case k => k_is))
    (case d31 => refine' VL.defK ?a ?l ?c ?k; (case a => k_is); (case l => k_is); (case c => k_is); (case k => k_is))
    (case d34 => refine' VL.defK ?a ?l ?c ?k; (case a => k_is); (case l => k_is); (case c => k_is); (case k => k_is))
    (case d39 => refine' VL.defK ?a ?l ?c ?k; (case a => k_is); (case l => k_is); (case c => k_is); (case k => k_is))
    (case d32 => refine' VL.defK ?a ?l ?c ?k; (case a => k_is); (case l => k_is); (case c => k_is); (case k => k_is))
    (case d35 => refine' VL.defK ?a ?l ?c ?k; (case a => k_is); (case l => k_is); (case c => k_is); (case k => k_is))
    (case d36 => refine' VL.defK ?a ?l ?c ?k; (case a => k_is); (case l => k_is); (case c => k_is); (case k => k_is))
    (case d37 => refine' VL.defK ?a ?l ?c ?k; (case a => k_is); (case l => k_is); (case c => k_is); (case k => k_is))
    (case d20 => refine' VL.defK ?a ?l ?c ?k; (case a => k_is); (case l => k_is); (case c => k_is); (case k => k_is))
    (case d19 => refine' VL.defK ?a ?l ?c ?k; (case a => k_is); (case l => k_is); (case c => k_is); (case k => k_is))
    (case d12 => refine' VL.defK ?a ?l ?c ?k; (case a => k_is); (case l => k_is); (case c => k_is); (case k => k_is))
    (case d13 => refine' VL.defK ?a ?l ?c ?k; (case a => k_is); (case l => k_is); (case c => k_is); (case k => k_is))
    (case d21 => refine' VL.defK ?a ?l ?c ?k; (case a => k_is); (case l => k_is); (case c => k_is); (case k => k_is))
    (case d22 => refine' VL.defK ?a ?l ?c ?k; (case a => k_is); (case l => k_is); (case c => k_is); (case k => k_is))
    (case d24 => refine' VL.defK ?a ?l ?c ?k; (case a => k_is); (case l => k_is); (case c => k_is); (case k => k_is))
    (case d23 => refine' VL.defK ?a ?l ?c ?k; (case a => k_is); (case l => k_is); (case c => k_is); (case k => k_is))
    (case d25 => refine' VL.defK ?a ?l ?c ?k; (case a => k_is); (case l => k_is); (case c => k_is); (case k => k_is))
    (case d38 => refine' VL.defK ?a ?l ?c ?k; (case a => k_is); (case l => k_is); (case c => k_is); (case k => k_is))
    (case d40 => refine' VL.defK ?a ?l ?c ?k; (case a => k_is); (case l => k_is); (case c => k_is); (case k => k_is))
    (case m0 => k_is)
    (case m1 => k_is)
    (case m2 => k_is)
    (case m3 => k_is)
    (case m4 => k_is)
    (case m5 => k_is)
    (case m6 => k_is)
    (case m7 => k_is)
    (case z0 => k_is)
    (case z1 => k_is)
    (case z2 => k_is)
    (case z3 => k_is)
    (case z4 => k_is)
    (case z5 => k_is)
    (case z6 => k_is)
    (case z7 => k_is)
    (case z8 => k_is)
    (case z9 => k_is)
    (case z10 => k_is)
    (case z11 => k_is)
    (case r0 => refine' VL.rai1 (VL.raiB ?a1 ?a2 ?a3 ?a4 ?a5 ?b1 ?b2 ?b3 ?b4 ?b5 ?b6 ?b7 ?b8) ?c1 ?c2 ?c3 ?c4 ?d1 ?d2 ?d3 ?d4 ?d5; (case a1 => k_is); (case a2 => k_is); (case a3 => k_is); (case a4 => k_is); (case a5 => k_is); (case b1 => k_is); (case b2 => k_is); (case b3 => k_is); (case b4 => k_is); (case b5 => k_is); (case b6 => k_is); (case b7 => k_is); (case b8 => k_is); (case c1 => k_is); (case c2 => decide +kernel); (case c3 => k_is); (case c4 => k_is); (case d1 => k_is); (case d2 => k_is); (case d3 => k_is); (case d4 => k_is); (case d5 => k_is))
    (case q0 => refine' VL.tstK ?a1 ?a2 ?a3 ?a4; (case a1 => k_is); (case a2 => k_is); (case a3 => k_is); (case a4 => k_is))
    (case q1 => refine' VL.tstK ?a1 ?a2 ?a3 ?a4; (case a1 => k_is); (case a2 => k_is); (case a3 => k_is); (case a4 => k_is))
    (case q2 => refine' VL.tstK ?a1 ?a2 ?a3 ?a4; (case a1 => k_is); (case a2 => k_is); (case a3 => k_is); (case a4 => k_is))
    (case q3 => refine' VL.tstK ?a1 ?a2 ?a3 ?a4; (case a1 => k_is); (case a2 => k_is); (case a3 => k_is); (case a4 => k_is))
    (case q4 => refine' VL.tstK ?a1 ?a2 ?a3 ?a4; (case a1 => k_is); (case a2 => k_is); (case a3 => k_is); (case a4 => k_is))
    (case q5 => refine' VL.tstK ?a1 ?a2 ?a3 ?a4; (case a1 => k_is); (case a2 => k_is); (case a3 => k_is); (case a4 => k_is))
    (case s0 => refine' VL.subK ?a1 ?a2 ?a3 ?a4; (case a1 => k_is); (case a2 => k_is); (case a3 => k_is); (case a4 => decide +kernel))
    (case s1 => refine' VL.subK ?a1 ?a2 ?a3 ?a4; (case a1 => k_is); (case a2 => k_is); (case a3 => k_is); (case a4 => decide +kernel))
    (case s2 => refine' VL.subK ?a1 ?a2 ?a3 ?a4; (case a1 => k_is); (case a2 => k_is); (case a3 => k_is); (case a4 => decide +kernel))
    (case s3 => refine' VL.subK ?a1 ?a2 ?a3 ?a4; (case a1 => k_is); (case a2 => k_is); (case a3 => k_is); (case a4 => decide +kernel))
    (case s4 => refine' VL.subK ?a1 ?a2 ?a3 ?a4; (case a1 => k_is); (case a2 => k_is); (case a3 => k_is); (case a4 => decide +kernel))
    (case s5 => refine' VL.subK ?a1 ?a2 ?a3 ?a4; (case a1 => k_is); (case a2 => k_is); (case a3 => k_is); (case a4 => decide +kernel))
