import PyProof.Rows.All
import PySem.Challenge.RW_matesline_k57_whole_meetings_and_ranges
import HandS.ForMost
import HandS.ForExc
import HandS.TupAny
import HandS.TupMul
import HandS.More
import HandS.Style
import HandS.IsInst
import HandS.Deep
import KE.DataEq
import HandS.RaiseMore
import KE.KIndexOf
import PyProof.SeqIndex
import PyProof.EqAt
import HandS.Iter
import HandS.Zip
import HandS.Rev
import KE.GoesMore
import KE.GoesEnum
import HandS.Comp
import HandS.WordsExc
import HandS.ExcOwn
import PyProof.ReprReads
import PyProof.ReprRoads
import HandS.Ends
import HandS.Dict
import KE.KRevSl
import HandS.AnyAll
import HandS.Text
import PyProof.ReprLen
import PyProof.Rows.ReprOcc
import HandS.StrMore
import HandS.Strs
import HandS.SetFor
import HandS.Steps
import HandS.ExcInit
import HandS.ExcField
import HandS.ExcIs
import HandS.Small
import KE.KIsAll
import HandS.Star
import HandS.SortInts
import HandS.TupSets
import HandS.Conv
import HandS.SortRule
import PyProof.ListStr
import HandS.Flow
import HandS.Lambda
import HandS.EndTab
import KE.KNest
import HandS.EndOwn
import HandS.HotCalls
import HandS.Defaults
import HandS.CallSlots
import HandS.Replace
import KE.DataMinMax
import HandS.NoneIn
import PyProof.EqKinds
import KE.KEqDict
import PyProof.Rows.SortShellAny
import KE.KDictZip
import KE.KItemsList
import HandS.ListItems
import KE.KDictList
import HandS.Keys
import Flt.Ops
import PyProof.FString5
import HandS.SetTxt0
set_option Elab.async false
set_option linter.all false
set_option maxRecDepth 100000
set_option maxHeartbeats 4000000
namespace VL
open PySem PySem.Spec PyProof.Rows L2
/-! ## tuples whose very object is known (so that it has no dict of its own) -/
abbrev tob (its : List Value) : Obj := { cls := .type "tuple", data := .seq its.toArray }
/-- a held tuple -/
abbrev HO.th (o : Obj) (xs : List V) : HO := .frz o (.tup xs)
theorem th_ok {P : Program} {w : World} {H : Hp} {h : Heap} {a : Addr} {xs : List V} {its : List Value} (hz : xs.length ≤ sizeLine) (r : Vals xs its) (e : h.get? a = some (tob its)) : ObjOk P w H h a (HO.th (tob its) xs) :=
  ⟨e, hz, its, r, ⟨_, e, rfl, _, rfl⟩⟩
theorem SqT.th {K : PySem.W.Frag} {H : Hp} {a : Addr} {o : Obj} {xs : List V} (h : H a = some (HO.th o xs)) : SqT K H a xs := .inl (.inr ⟨o, h⟩)
/-- what is wanted of a new tuple -/
abbrev NewT (H : Hp) (xs : List V) (Q : VK) : Prop := ∀ (p : Addr) (o : Obj), H p = none → o.dict = none → Q (.ref p) (upd H p (HO.th o xs))
section
variable {X : Cx} {e : Expr} {es : List Expr} {te : TE} {t : TA} {pos : Pos} {pins : List (Addr × Obj)} {σ : L2.St} {H : Hp} {s : Shared} {Q : VK}
theorem new_th {xs : List V} {its : List Value} {tk : Nat} (I : Inv X pins σ H s) (hz : xs.length ≤ sizeLine) (r : Vals xs its) (q : NewT H xs Q) : EP X pins σ Q (.ref s.heap.objs.size) { s with heap := s.heap.push (tob its), toks := tk } :=
  ⟨.ref s.heap.objs.size, upd H s.heap.objs.size (HO.th (tob its) xs), I.laid (t' := tk) (fun _ _ e => Heap.get?_push_of_some _ e) (Nat.le_refl _) (th_ok hz r (Heap.get?_push_size _ rfl)), rfl, q _ _ (I.hok.fresh (Nat.le_refl _)) rfl⟩
def tTupF (t : TA) : TE := fun σ H Q => t σ H fun xs H1 => xs.length ≤ sizeLine ∧ NewT H1 xs Q
theorem pe_tupF {x1} (h : PA X es t) : PE X (.Tuple es x1 pos) (tTupF t) := by
  refine ⟨fun pins s σ H Q I hq => wpAny_Tuple_spliced (thn (h.run pos pins s σ H _ I hq) ?_)⟩
  rintro us s1 ⟨xs, H1, I1, r, z, q⟩
  exact ⟨Nat.le_trans (Nat.le_of_eq r.length.symm) z, new_th (tk := s1.toks) I1 z r q⟩
def rCatF (K : PySem.W.Frag) : R2 := fun x y H Q => ∃ a c xs ys, x = .ref a ∧ y = .ref c ∧ SqT K H a xs ∧ SqT K H c ys ∧ xs.length + ys.length ≤ sizeLine ∧
  (xs = [] → Q (.ref c) H) ∧ (xs ≠ [] → ys = [] → Q (.ref a) H) ∧ (xs ≠ [] → ys ≠ [] → NewT H (xs ++ ys) Q)
theorem op_catF : OpR X (binaryOp .Add) (rCatF X.K) := by
  intro pins s σ H x y v u Q I rx ry ⟨a, c, xs, ys, ex, ey, ha, hc, hz, q0, q1, q2⟩
  subst ex ey
  obtain rfl : v = .ref a := rx
  obtain rfl : u = .ref c := ry
  obtain ⟨i1, r1, p1, _⟩ := I.tuple ha
  obtain ⟨i2, r2, p2, _⟩ := I.tuple hc
  cases xs with
  | nil =>
    cases r1
    exact cat_tup0 p1 p2 ⟨.ref c, H, I, rfl, q0 rfl⟩
  | cons x0 xr =>
    have hx : x0 :: xr ≠ [] := by simp
    refine HT.cat_tup p1 p2 (fun z => hx (r1.nil_iff.mp z)) (fun z => ⟨.ref a, H, I, rfl, q1 hx (r2.nil_iff.mp z)⟩) (fun z => ?_) (by have h1 := r1.length; have h2 := r2.length; omega)
    exact new_th (tk := s.toks) I (by rw [List.length_append]; exact hz) (r1.append r2) (q2 hx fun w => z (r2.nil_iff.mpr w))
def rSlF (K : PySem.W.Frag) : V → Option Int → Option Int → Hp → VK → Prop := fun x lo hi H Q => ∃ a xs, x = .ref a ∧ SqT K H a xs ∧
  (HT.sIx xs.length 0 lo = 0 ∧ HT.sIx xs.length xs.length hi = xs.length → Q (.ref a) H) ∧ (¬ (HT.sIx xs.length 0 lo = 0 ∧ HT.sIx xs.length xs.length hi = xs.length) → NewT H (cutV xs lo hi) Q)
theorem sl_tupF : SlR X (rSlF X.K) := by
  intro pins s σ H x v vl vu lo hi sl Q I rx hs pl pu ⟨a, xs, ex, hx, q1, q2⟩
  subst ex
  obtain rfl : v = .ref a := rx
  obtain ⟨its, r, ht, hz⟩ := I.tuple hx
  have hn : its.toArray.size = xs.length := by rw [List.size_toArray, r.length]
  refine ⟨"tuple", _, PyProof.Rows.slot_tuple_getitem.lookup, ht.typeIs, ?_⟩
  by_cases hw : HT.sIx xs.length 0 lo = 0 ∧ HT.sIx xs.length xs.length hi = xs.length
  · exact getItem_tuple_whole ht hs pl pu (by rw [hn]; exact hw) ⟨.ref a, H, I, rfl, q1 hw⟩
  · refine HT.getItem_tuple_cut ht hs pl pu (by rw [hn]; exact hw) ?_ (by rw [hn]; exact hz)
    rw [hn]
    exact new_th (tk := s.toks) I (Nat.le_trans (cutV_length xs lo hi) hz) ((r.drop _).take _) (q2 hw)
def rTupOf (K : PySem.W.Frag) : List V → Hp → VK → Prop := fun xs H Q => ∃ p ys, xs = [.ref p] ∧ ((SqL K H p ys ∧ NewT H ys Q) ∨ (SqT K H p ys ∧ Q (.ref p) H))
theorem call_tupF : CallR X (.type "tuple") (rTupOf X.K) := by
  intro pins s σ H xs us Q I r ⟨p, ys, ex, h⟩
  subst ex
  obtain ⟨u, rfl, ru⟩ := vals1 r
  obtain rfl : u = .ref p := ru
  rcases h with ⟨hq, q⟩ | ⟨hq, q⟩
  · obtain ⟨its, r', pl, hz⟩ := I.list hq
    refine call_tuple_list pl.isList (fun h' kp => ?_) (by rw [List.size_toArray, ← r'.length]; exact hz)
    exact new_th (s := { s with heap := h' }) (tk := s.toks) (I.kept (t' := s.toks) kp) hz r' q
  · obtain ⟨its, r', pl, hz⟩ := I.tuple hq
    exact call_tuple_same pl ⟨.ref p, H, I, rfl, q⟩
def rRepF (K : PySem.W.Frag) : R2 := fun x y H Q => ∃ l k xs, x = .ref l ∧ y = .int k ∧ SqT K H l xs ∧ xs ≠ [] ∧ 2 ≤ k ∧ k ≤ 1000 ∧ xs.length ≤ 1000 ∧ NewT H (List.replicate k.toNat xs).flatten Q
theorem op_repF : OpR X (binaryOp .Mult) (rRepF X.K) := by
  intro pins s σ H x y v u Q I rx ry ⟨l, k, xs, ex, ey, hT, hne, h2, h3, hz, q⟩
  subst ex ey
  obtain rfl : v = .ref l := rx
  obtain ⟨t, rfl⟩ := ry
  obtain ⟨its, r, ⟨o, ho, hc, n, hd⟩, hs⟩ := I.tuple hT
  obtain ⟨oc, dd, dt, slt⟩ := o
  obtain rfl : oc = .type "tuple" := hc
  obtain rfl : dt = .seq its.toArray n := hd
  have hle : its.length = xs.length := r.length.symm
  have hi : its.toArray.isEmpty = false := by
    cases xs with
    | nil => exact absurd rfl hne
    | cons _ _ => cases r; rfl
  have hsz : its.toArray.size = xs.length := by rw [List.size_toArray, hle]
  have hm : ((its.toArray.size : Nat) : Int) * k ≤ 1000000 := by
    rw [hsz]
    exact Int.le_trans (Int.mul_le_mul_of_nonneg_right (show ((xs.length : Nat) : Int) ≤ 1000 by omega) (by omega)) (by omega)
  have fl : (List.replicate k.toNat xs).flatten.length ≤ sizeLine := by
    rw [PyProof.Rows.lm_len_rep_flat, sizeLine_eq]
    exact Nat.le_trans (Nat.mul_le_mul (show k.toNat ≤ 1000 by omega) hz) (by decide)
  have fl2 : (List.replicate k.toNat its).flatten.length ≤ sizeLine := by
    rw [PyProof.Rows.lm_len_rep_flat, hle, ← PyProof.Rows.lm_len_rep_flat]
    exact fl
  have c1 : (its.toArray.isEmpty || k == 1) = false := by simp only [hi, Bool.false_or]; exact beq_eq_false_iff_ne.mpr (by omega)
  have c2 : (decide (k ≤ 0) || its.toArray.isEmpty) = false := by simp only [hi, Bool.or_false]; exact decide_eq_false (by omega)
  have c4 : Builtin.Tuple.tupleTooMany (((its.toArray.size : Nat) : Int) * k) = false := by
    unfold Builtin.Tuple.tupleTooMany
    simp only [sizeLine_eq]
    exact decide_eq_false (by omega)
  have road := tuple_mulW l its.toArray n dd slt k t (by simp; omega) c1 c2 (by omega) c4 (by rw [size_rep, List.size_toArray]; exact fl2)
  refine wpAny_binaryOp_repeat_ref (U := "int") (T := "tuple") (by decide) ⟨_, ho, rfl⟩ (typeIs_int · k t) noFill_tuple_mul F.fills_int_mul F.slot_int_rmul repeat_tuple F.slot_int_index.lookup ?_
  refine call_meets F.slot_int_rmul (typeIs_int s k t) F.entry_int_rmul (F.args_int_rmul_2 _ _) (int_rmul_tuple k t l its.toArray n dd slt) ⟨ho, rfl, ⟨_, ho, rfl⟩, ?_⟩
  refine call_meets F.slot_tuple_mul ⟨_, ho, rfl⟩ F.entry_tuple_mul (F.args_tuple_mul_2 _ _) road ⟨ho, ?_⟩
  rw [size_rep]
  exact new_th (tk := s.toks) I fl (r.rep k.toNat) q
end
end VL
set_option Elab.async false
set_option linter.all false
set_option maxRecDepth 100000
set_option maxHeartbeats 4000000
namespace VL
open PySem PySem.Spec PyProof.Rows L2
/-- things that no rule here writes -/
def still : HO → Prop
  | .ext _ => True
  | .frz _ (.lst _) => True
  | _ => False
/-- any other thing, by what is true of it at its address -/
structure Abs where
  R : (Addr → Prop) → Hp → Addr → Prop
  at_ : ∀ {Z H a}, R Z H a → ∃ o, H a = some o
  noext : ∀ {Z H a}, R Z H a → ∀ o : HO, still o → H a ≠ some o
  mono : ∀ {Z Z' : Addr → Prop} {H H' : Hp} {a : Addr}, (∀ a, Z' a → Z a ∨ H a = none) → (∀ a o, H a = some o → ¬ Z a → H' a = some o) → (∀ o, H a = some o → H' a = some o) → R Z H a → R Z' H' a
/-- what a value is worth: plain data, an own object of plain data that stands still, a value as it is -/
inductive D where
  | py (p : PyData)
  | obj (a : Addr) (n : Str) (fs : List (Str × PyData))
  | raw (v : V)
  | err (a : Addr) (d : Option Addr) (n : Str) (fs : List (Str × PyData))
  | abs (A : Abs)
@[simp] def kD : Key → PyData
  | .inl i => .int i
  | .inr x => .str x
mutual
/-- v is worth d in H; nothing that it reaches lies in Z -/
inductive Rq (Z : Addr → Prop) (H : Hp) : V → PyData → Prop
  | non : Rq Z H .non .none
  | bl (k : Bool) : Rq Z H (.bl k) (.bool k)
  | int (i : Int) : Rq Z H (.int i) (.int i)
  | str (x : Str) : Rq Z H (.str x) (.str x)
  | lst {a : Addr} {xs : List V} {ds : List PyData} : H a = some (.lst xs) → ¬ Z a → Rqs Z H xs ds → Rq Z H (.ref a) (.list ds)
  | tup {a : Addr} {o : Obj} {xs : List V} {ds : List PyData} : H a = some (HO.th o xs) → o.dict = none → ¬ Z a → Rqs Z H xs ds → Rq Z H (.ref a) (.tuple ds)
  | dct {a : Addr} {kvs : List (Key × V)} {ds : List (PyData × PyData)} : H a = some (.dK kvs) → ¬ Z a → Rqk Z H kvs ds → Rq Z H (.ref a) (.dict ds)
inductive Rqs (Z : Addr → Prop) (H : Hp) : List V → List PyData → Prop
  | nil : Rqs Z H [] []
  | cons {v : V} {d : PyData} {vs : List V} {ds : List PyData} : Rq Z H v d → Rqs Z H vs ds → Rqs Z H (v :: vs) (d :: ds)
inductive Rqk (Z : Addr → Prop) (H : Hp) : List (Key × V) → List (PyData × PyData) → Prop
  | nil : Rqk Z H [] []
  | cons {k : Key} {v : V} {d : PyData} {vs : List (Key × V)} {ds : List (PyData × PyData)} : Rq Z H v d → Rqk Z H vs ds → Rqk Z H ((k, v) :: vs) ((kD k, d) :: ds)
end
section
variable {Z Z' : Addr → Prop} {H H' : Hp}
mutual
theorem Rq.mono (hz : ∀ a, Z' a → Z a ∨ H a = none) (hs : ∀ a o, H a = some o → ¬ Z a → H' a = some o) : ∀ {v : V} {d : PyData}, Rq Z H v d → Rq Z' H' v d
  | _, _, .non => .non
  | _, _, .bl k => .bl k
  | _, _, .int i => .int i
  | _, _, .str x => .str x
  | _, _, .lst e n r => .lst (hs _ _ e n) (fun z => (hz _ z).elim n fun q => by rw [e] at q; cases q) (Rqs.mono hz hs r)
  | _, _, .tup e d n r => .tup (hs _ _ e n) d (fun z => (hz _ z).elim n fun q => by rw [e] at q; cases q) (Rqs.mono hz hs r)
  | _, _, .dct e n r => .dct (hs _ _ e n) (fun z => (hz _ z).elim n fun q => by rw [e] at q; cases q) (Rqk.mono hz hs r)
theorem Rqs.mono (hz : ∀ a, Z' a → Z a ∨ H a = none) (hs : ∀ a o, H a = some o → ¬ Z a → H' a = some o) : ∀ {v : List V} {d : List PyData}, Rqs Z H v d → Rqs Z' H' v d
  | _, _, .nil => .nil
  | _, _, .cons r t => .cons (Rq.mono hz hs r) (Rqs.mono hz hs t)
theorem Rqk.mono (hz : ∀ a, Z' a → Z a ∨ H a = none) (hs : ∀ a o, H a = some o → ¬ Z a → H' a = some o) : ∀ {v : List (Key × V)} {d : List (PyData × PyData)}, Rqk Z H v d → Rqk Z' H' v d
  | _, _, .nil => .nil
  | _, _, .cons r t => .cons (Rq.mono hz hs r) (Rqk.mono hz hs t)
end
theorem Rqs.length : ∀ {v : List V} {d : List PyData}, Rqs Z H v d → v.length = d.length
  | _, _, .nil => rfl
  | _, _, .cons _ t => congrArg (· + 1) (Rqs.length t)
theorem Rqk.length : ∀ {v : List (Key × V)} {d : List (PyData × PyData)}, Rqk Z H v d → v.length = d.length
  | _, _, .nil => rfl
  | _, _, .cons _ t => congrArg (· + 1) (Rqk.length t)
theorem Rqs.append : ∀ {v w : List V} {d e : List PyData}, Rqs Z H v d → Rqs Z H w e → Rqs Z H (v ++ w) (d ++ e)
  | _, _, _, _, .nil, s => s
  | _, _, _, _, .cons r t, s => .cons r (Rqs.append t s)
theorem Rqs.get : ∀ {v : List V} {d : List PyData} {i : Nat} {x : PyData}, Rqs Z H v d → d[i]? = some x → ∃ u, v[i]? = some u ∧ Rq Z H u x
  | _, _, _, _, .nil, e => by simp at e
  | _, _, 0, _, .cons r _, e => by simp at e; subst e; exact ⟨_, rfl, r⟩
  | _, _, i + 1, x, .cons _ t, e => by
    obtain ⟨u, h1, h2⟩ := Rqs.get (i := i) (x := x) t (by simpa using e)
    exact ⟨u, by simpa using h1, h2⟩
theorem Rqs.take : ∀ {v : List V} {d : List PyData} (n : Nat), Rqs Z H v d → Rqs Z H (v.take n) (d.take n)
  | _, _, 0, _ => .nil
  | _, _, _ + 1, .nil => .nil
  | _, _, n + 1, .cons r t => .cons r (Rqs.take n t)
theorem Rqs.drop : ∀ {v : List V} {d : List PyData} (n : Nat), Rqs Z H v d → Rqs Z H (v.drop n) (d.drop n)
  | _, _, 0, r => r
  | _, _, _ + 1, .nil => .nil
  | _, _, n + 1, .cons _ t => Rqs.drop n t
theorem Rqs.set {u : V} {x : PyData} (r : Rq Z H u x) : ∀ {v : List V} {d : List PyData} (n : Nat), Rqs Z H v d → Rqs Z H (v.set n u) (d.set n x)
  | _, _, _, .nil => .nil
  | _, _, 0, .cons _ t => .cons r t
  | _, _, n + 1, .cons q t => .cons q (Rqs.set r n t)
theorem Rqs.reverse {v : List V} {d : List PyData} (r : Rqs Z H v d) : Rqs Z H v.reverse d.reverse := by
  have go : ∀ {v w : List V} {d e : List PyData}, Rqs Z H v d → Rqs Z H w e → Rqs Z H (v.reverse ++ w) (d.reverse ++ e) := by
    intro v
    induction v with
    | nil => intro w d e r s; cases r; exact s
    | cons x v ih =>
      intro w d e r s
      cases r with
      | cons r t =>
        rw [List.reverse_cons, List.reverse_cons, List.append_assoc, List.append_assoc]
        exact ih t (.cons r s)
  have := go r (Rqs.nil (Z := Z) (H := H))
  simpa using this
theorem Rqs.rep {v : List V} {d : List PyData} (r : Rqs Z H v d) : ∀ n : Nat, Rqs Z H (List.replicate n v).flatten (List.replicate n d).flatten
  | 0 => .nil
  | n + 1 => by rw [List.replicate_succ, List.replicate_succ, List.flatten_cons, List.flatten_cons]; exact r.append (Rqs.rep r n)
/-- ints are ints -/
theorem Rqs.ints : ∀ {v : List V} {ns : List Int}, Rqs Z H v (ns.map PyData.int) → v = ns.map V.int
  | _, [], .nil => rfl
  | _, n :: ns, .cons r t => by
    cases r
    rw [List.map_cons, Rqs.ints t]
theorem Rqs.strs : ∀ {v : List V} {ns : List Str}, Rqs Z H v (ns.map PyData.str) → v = ns.map V.str
  | _, [], .nil => rfl
  | _, n :: ns, .cons r t => by
    cases r
    rw [List.map_cons, Rqs.strs t]
theorem Rqs.bools : ∀ {v : List V} {ns : List Bool}, Rqs Z H v (ns.map PyData.bool) → v = ns.map V.bl
  | _, [], .nil => rfl
  | _, n :: ns, .cons r t => by
    cases r
    rw [List.map_cons, Rqs.bools t]
theorem Rqs.of_ints : ∀ (ns : List Int), Rqs Z H (ns.map V.int) (ns.map PyData.int)
  | [] => .nil
  | n :: ns => .cons (.int n) (Rqs.of_ints ns)
end
/-- what surrounds the code: the classes' addresses, what others may change (B) while G stands -/
structure Bg where
  cls : Str → Addr
  B : Addr → Prop
  G : Hp → Prop
  loc : ∀ H H' : Hp, (∀ a, B a → H' a = H a) → (∀ a o, still o → H a = some o → H' a = some o) → G H → G H'
  dom : ∀ (H : Hp) (a : Addr), G H → B a → H a ≠ none
/-- an error: its class's name, its fields -/
structure Er where
  n : Str
  fs : List (Str × PyData)
/-- fields -/
inductive Rqf (Z : Addr → Prop) (H : Hp) : List (Str × V) → List (Str × PyData) → Prop
  | nil : Rqf Z H [] []
  | cons {k : Str} {v : V} {d : PyData} {vs : List (Str × V)} {ds : List (Str × PyData)} : Rq Z H v d → Rqf Z H vs ds → Rqf Z H ((k, v) :: vs) ((k, d) :: ds)
section
variable {Z Z' : Addr → Prop} {H H' : Hp}
theorem Rqf.mono (hz : ∀ a, Z' a → Z a ∨ H a = none) (hs : ∀ a o, H a = some o → ¬ Z a → H' a = some o) : ∀ {v : List (Str × V)} {d : List (Str × PyData)}, Rqf Z H v d → Rqf Z' H' v d
  | _, _, .nil => .nil
  | _, _, .cons r t => .cons (r.mono hz hs) (Rqf.mono hz hs t)
theorem Rqf.look : ∀ {v : List (Str × V)} {d : List (Str × PyData)} {f : Str} {x : PyData}, Rqf Z H v d → d.lookup f = some x → ∃ u, v.lookup f = some u ∧ Rq Z H u x
  | _, _, _, _, .nil, e => by simp at e
  | _, _, f, x, .cons (k := k) r t, e => by
    rw [List.lookup_cons] at e
    rw [List.lookup_cons]
    cases h : f == k with
    | true => rw [h] at e; cases e; exact ⟨_, rfl, r⟩
    | false => rw [h] at e; exact Rqf.look t e
end
/-- v is worth d -/
def Rp (b : Bg) (Z : Addr → Prop) (H : Hp) (v : V) : D → Prop
  | .py p => Rq Z H v p
  | .obj a n fs => ∃ dx xs, v = .ref a ∧ H a = some (.ins (b.cls n) dx xs) ∧ ¬ Z a ∧ Rqf Z H xs fs
  | .abs A => ∃ a, v = .ref a ∧ ¬ Z a ∧ A.R Z H a
  | .raw u => v = u
  | .err a d _ fs => v = .ref a ∧ ((d = none ∧ fs = []) ∨ ∃ dd xs, d = some dd ∧ H dd = some (.xd xs) ∧ ¬ Z dd ∧ Rqf Z H xs fs)
inductive Rps (b : Bg) (Z : Addr → Prop) (H : Hp) : List V → List D → Prop
  | nil : Rps b Z H [] []
  | cons {v : V} {d : D} {vs : List V} {ds : List D} : Rp b Z H v d → Rps b Z H vs ds → Rps b Z H (v :: vs) (d :: ds)
section
variable {b : Bg} {Z Z' : Addr → Prop} {H H' : Hp}
theorem Rp.mono (hz : ∀ a, Z' a → Z a ∨ H a = none) (hs : ∀ a o, H a = some o → ¬ Z a → H' a = some o) {v : V} {d : D} (r : Rp b Z H v d) : Rp b Z' H' v d := by
  cases d with
  | py p => exact Rq.mono hz hs r
  | abs A =>
    obtain ⟨a, e, nz, q⟩ := r
    obtain ⟨o, h⟩ := A.at_ q
    exact ⟨a, e, fun z => (hz _ z).elim nz (fun q => by rw [h] at q; cases q), A.mono hz hs (fun o h => hs _ _ h nz) q⟩
  | obj a n fs =>
    obtain ⟨dx, xs, e, h, nz, q⟩ := r
    exact ⟨dx, xs, e, hs _ _ h nz, fun z => (hz _ z).elim nz (fun q => by rw [h] at q; cases q), q.mono hz hs⟩
  | raw u => exact r
  | err a d n fs =>
    obtain ⟨e, r⟩ := r
    refine ⟨e, r.imp id ?_⟩
    rintro ⟨dd, xs, e1, h, nz, q⟩
    exact ⟨dd, xs, e1, hs _ _ h nz, fun z => (hz _ z).elim nz (fun q => by rw [h] at q; cases q), q.mono hz hs⟩
theorem Rps.mono (hz : ∀ a, Z' a → Z a ∨ H a = none) (hs : ∀ a o, H a = some o → ¬ Z a → H' a = some o) : ∀ {v : List V} {d : List D}, Rps b Z H v d → Rps b Z' H' v d
  | _, _, .nil => .nil
  | _, _, .cons r t => .cons (r.mono hz hs) (Rps.mono hz hs t)
theorem Rps.length : ∀ {v : List V} {d : List D}, Rps b Z H v d → v.length = d.length
  | _, _, .nil => rfl
  | _, _, .cons _ t => congrArg (· + 1) (Rps.length t)
theorem Rps.pys : ∀ {v : List V} {d : List PyData}, Rps b Z H v (d.map D.py) → Rqs Z H v d
  | _, [], .nil => .nil
  | _, x :: d, .cons r t => .cons r (Rps.pys t)
theorem Rqs.to : ∀ {v : List V} {d : List PyData}, Rqs Z H v d → Rps b Z H v (d.map D.py)
  | _, _, .nil => .nil
  | _, _, .cons r t => .cons r (Rqs.to t)
end
/-- an owned object: it lies in Z itself, its items do not -/
def Ow (b : Bg) (Z : Addr → Prop) (H : Hp) (a : Addr) : D → Prop
  | .py (.list ds) => ∃ xs, H a = some (.lst xs) ∧ Rqs Z H xs ds
  | .py (.dict ds) => ∃ kvs, H a = some (.dK kvs) ∧ Rqk Z H kvs ds
  | .obj c n fs => a = c ∧ ∃ dx xs, H a = some (.ins (b.cls n) dx xs) ∧ Rqf Z H xs fs
  | .abs A => A.R Z H a
  | _ => False
section
variable {b : Bg} {Z Z' : Addr → Prop} {H H' : Hp} {a : Addr} {d : D}
theorem Ow.noext (h : Ow b Z H a d) (o : HO) (ho : still o) : H a ≠ some o := fun z => by
  cases d with
  | py p =>
    cases p with
    | list ds => obtain ⟨xs, e, _⟩ := h; rw [e] at z; cases z; exact ho
    | dict ds => obtain ⟨xs, e, _⟩ := h; rw [e] at z; cases z; exact ho
    | _ => exact False.elim h
  | obj c n fs => obtain ⟨_, _, _, e, _⟩ := h; rw [e] at z; cases z; exact ho
  | abs A => exact A.noext h o ho z
  | _ => exact False.elim h
theorem Ow.at (h : Ow b Z H a d) : ∃ o, H a = some o := by
  cases d with
  | py p =>
    cases p with
    | list ds => obtain ⟨xs, e, _⟩ := h; exact ⟨_, e⟩
    | dict ds => obtain ⟨xs, e, _⟩ := h; exact ⟨_, e⟩
    | _ => exact False.elim h
  | obj c n fs => obtain ⟨_, dx, xs, e, _⟩ := h; exact ⟨_, e⟩
  | abs A => exact A.at_ h
  | raw u => exact False.elim h
  | err _ _ _ _ => exact False.elim h
theorem Ow.mono (hz : ∀ a, Z' a → Z a ∨ H a = none) (hs : ∀ a o, H a = some o → ¬ Z a → H' a = some o) (ha : ∀ o, H a = some o → H' a = some o) (h : Ow b Z H a d) : Ow b Z' H' a d := by
  cases d with
  | py p =>
    cases p with
    | list ds => obtain ⟨xs, e, r⟩ := h; exact ⟨xs, ha _ e, r.mono hz hs⟩
    | dict ds => obtain ⟨xs, e, r⟩ := h; exact ⟨xs, ha _ e, r.mono hz hs⟩
    | _ => exact False.elim h
  | obj c n fs => obtain ⟨ec, dx, xs, e, r⟩ := h; exact ⟨ec, dx, xs, ha _ e, r.mono hz hs⟩
  | abs A => exact A.mono hz hs ha h
  | raw u => exact False.elim h
  | err _ _ _ _ => exact False.elim h
/-- given away -/
theorem Ow.rp (hz : ∀ a, Z' a → Z a) (na : ¬ Z' a) (h : Ow b Z H a d) : Rp b Z' H (.ref a) d := by
  have hm : ∀ a, Z' a → Z a ∨ H a = none := fun a z => .inl (hz a z)
  cases d with
  | py p =>
    cases p with
    | list ds => obtain ⟨xs, e, r⟩ := h; exact Rq.lst e na (r.mono hm fun _ _ e _ => e)
    | dict ds => obtain ⟨xs, e, r⟩ := h; exact Rq.dct e na (r.mono hm fun _ _ e _ => e)
    | _ => exact False.elim h
  | obj c n fs => obtain ⟨ec, dx, xs, e, r⟩ := h; subst ec; exact ⟨dx, xs, rfl, e, na, r.mono hm fun _ _ e _ => e⟩
  | abs A => exact ⟨a, rfl, na, A.mono hm (fun _ _ e _ => e) (fun _ e => e) h⟩
  | raw u => exact False.elim h
  | err _ _ _ _ => exact False.elim h
end
end VL
set_option Elab.async false
set_option linter.all false
set_option maxRecDepth 100000
set_option maxHeartbeats 4000000
namespace VL
open PySem PySem.Spec PyProof.Rows L2
/-- a name's slot: nothing known, a shared value, an object that nobody else holds -/
inductive Slot where
  | un | shr (d : D) | own (d : D)
abbrev VEnv := List Slot
/-- all that stood and may not be changed by others stands -/
def Ex (b : Bg) (H H' : Hp) : Prop := ∀ a o, H a = some o → ¬ b.B a → H' a = some o
section
variable {b : Bg} {H H1 H2 : Hp}
theorem Ex.refl : Ex b H H := fun _ _ e _ => e
theorem Ex.trans (x : Ex b H H1) (y : Ex b H1 H2) : Ex b H H2 := fun a o e n => y a o (x a o e n) n
theorem Ex.new {a : Addr} {o : HO} (h : H a = none) : Ex b H (upd H a o) := fun c u e _ => by
  rw [upd_ne (ne_of_none e h)]
  exact e
theorem Bg.new {a : Addr} {o : HO} (g : b.G H) (h : H a = none) : b.G (upd H a o) :=
  b.loc H _ (fun c hc => upd_ne fun e => b.dom H c g hc (by rw [e]; exact h)) (fun c o _ e => by rw [upd_ne (ne_of_none e h)]; exact e) g
end
/-- the names' values and what they own. Zo: what the callers own, and B; Z: all that is owned now -/
structure VOk (b : Bg) (Zo Z : Addr → Prop) (σ : L2.St) (H : Hp) (ρ : VEnv) : Prop where
  g : b.G H
  zb : ∀ a, b.B a → Zo a
  zo : ∀ a, Zo a → Z a
  dom : ∀ a, Z a → H a ≠ none
  zi : ∀ a, Z a → Zo a ∨ ∃ (i : Nat) (d : D), ρ[i]? = some (.own d) ∧ σ[i]? = some (some (.ref a))
  own : ∀ (i : Nat) (d : D), ρ[i]? = some (.own d) → ∃ a, σ[i]? = some (some (.ref a)) ∧ Z a ∧ ¬ Zo a ∧ Ow b Z H a d
  inj : ∀ (i j : Nat) (d e : D) (a : Addr), ρ[i]? = some (.own d) → ρ[j]? = some (.own e) → σ[i]? = some (some (.ref a)) → σ[j]? = some (some (.ref a)) → i = j
  shr : ∀ (i : Nat) (d : D), ρ[i]? = some (.shr d) → ∃ v, σ[i]? = some (some v) ∧ Rp b Z H v d
  len : ρ.length = σ.length
section
variable {b : Bg} {Zo Z : Addr → Prop} {σ : L2.St} {H H' : Hp} {ρ : VEnv}
theorem VOk.nb (v : VOk b Zo Z σ H ρ) {a : Addr} (h : ¬ Z a) : ¬ b.B a := fun z => h (v.zo _ (v.zb _ z))
theorem VOk.fresh (v : VOk b Zo Z σ H ρ) {a : Addr} (h : H a = none) : ¬ Z a := fun z => v.dom a z h
theorem VOk.keep (v : VOk b Zo Z σ H ρ) (x : Ex b H H') : ∀ a o, H a = some o → ¬ Z a → H' a = some o := fun a o e n => x a o e (v.nb n)
theorem VOk.rp (v : VOk b Zo Z σ H ρ) (x : Ex b H H') {u : V} {d : D} (r : Rp b Z H u d) : Rp b Z H' u d := r.mono (fun a z => .inl z) (v.keep x)
theorem VOk.rq (v : VOk b Zo Z σ H ρ) (x : Ex b H H') {u : V} {d : PyData} (r : Rq Z H u d) : Rq Z H' u d := r.mono (fun a z => .inl z) (v.keep x)
theorem VOk.rqs (v : VOk b Zo Z σ H ρ) (x : Ex b H H') {u : List V} {d : List PyData} (r : Rqs Z H u d) : Rqs Z H' u d := r.mono (fun a z => .inl z) (v.keep x)
/-- behind an expression -/
theorem VOk.ex (v : VOk b Zo Z σ H ρ) (x : Ex b H H') (g : b.G H') : VOk b Zo Z σ H' ρ where
  g := g
  zb := v.zb
  zo := v.zo
  dom := fun a z => by
    by_cases hb : b.B a
    · exact b.dom H' a g hb
    · cases e : H a with
      | none => exact absurd e (v.dom a z)
      | some o => rw [x a o e hb]; simp
  zi := v.zi
  own := fun i d e => by
    obtain ⟨a, h1, h2, h3, h4⟩ := v.own i d e
    exact ⟨a, h1, h2, h3, h4.mono (fun _ z => .inl z) (v.keep x) fun o q => x a o q fun z => h3 (v.zb a z)⟩
  inj := v.inj
  shr := fun i d e => by
    obtain ⟨u, h1, h2⟩ := v.shr i d e
    exact ⟨u, h1, v.rp x h2⟩
  len := v.len
end
/-! ### readings -/
abbrev VT := VEnv → (D → Prop) → (Er → Prop) → Prop
abbrev VB := VEnv → (Bool → Prop) → (Er → Prop) → Prop
abbrev VA := VEnv → (List D → Prop) → (Er → Prop) → Prop
/-- an error as it lies: its class, its own dict -/
def ErRp (b : Bg) (Z : Addr → Prop) (H : Hp) (c : Value) (d : Option Addr) (er : Er) : Prop :=
  c = .ref (b.cls er.n) ∧ ((d = none ∧ er.fs = []) ∨ ∃ a xs, d = some a ∧ H a = some (.xd xs) ∧ ¬ Z a ∧ Rqf Z H xs er.fs)
/-- a borrowed value: it may be an owned object itself -/
def Rb (b : Bg) (Z : Addr → Prop) (H : Hp) (v : V) (d : D) : Prop := Rp b Z H v d ∨ ∃ a, v = .ref a ∧ ¬ b.B a ∧ Z a ∧ Ow b Z H a d
/-- a new object that nobody holds -/
def Rn (b : Bg) (Z : Addr → Prop) (H0 H : Hp) (v : V) (d : D) : Prop := ∃ a, v = .ref a ∧ H0 a = none ∧ Ow b (fun c => Z c ∨ c = a) H a d
/-- how a reading over values is one over the heap -/
def LE (b : Bg) (W : WX) (R : (Addr → Prop) → Hp → Hp → V → D → Prop) (t : VT) : TE := fun σ H Q => ∃ Zo Z ρ Qd Ed, VOk b Zo Z σ H ρ ∧ t ρ Qd Ed ∧
  (∀ v H' d, Ex b H H' → b.G H' → R Z H H' v d → Qd d → Q v H') ∧ ∀ c x H' er, Ex b H H' → b.G H' → ErRp b Z H' c x er → Ed er → W c x σ H'
def LB (b : Bg) (W : WX) (t : VB) : TT := fun σ H Q => ∃ Zo Z ρ Qd Ed, VOk b Zo Z σ H ρ ∧ t ρ Qd Ed ∧
  (∀ k H', Ex b H H' → b.G H' → Qd k → Q k H') ∧ ∀ c x H' er, Ex b H H' → b.G H' → ErRp b Z H' c x er → Ed er → W c x σ H'
def LA (b : Bg) (W : WX) (t : VA) : TA := fun σ H Q => ∃ Zo Z ρ Qd Ed, VOk b Zo Z σ H ρ ∧ t ρ Qd Ed ∧
  (∀ v H' d, Ex b H H' → b.G H' → Rps b Z H' v d → Qd d → Q v H') ∧ ∀ c x H' er, Ex b H H' → b.G H' → ErRp b Z H' c x er → Ed er → W c x σ H'
/-- an expression: its value; borrowed; new -/
def VE (X : Cx) (b : Bg) (W : WX) (e : Expr) (t : VT) : Prop := PE X e (LE b W (fun Z _ H v d => Rp b Z H v d) t)
def VX (X : Cx) (b : Bg) (W : WX) (e : Expr) (t : VT) : Prop := PE X e (LE b W (fun Z _ H v d => Rb b Z H v d) t)
def VN (X : Cx) (b : Bg) (W : WX) (e : Expr) (t : VT) : Prop := PE X e (LE b W (fun Z H0 H v d => Rn b Z H0 H v d) t)
def VTe (X : Cx) (b : Bg) (W : WX) (e : Expr) (t : VB) : Prop := PT X e (LB b W t)
def VAs (X : Cx) (b : Bg) (W : WX) (es : List Expr) (t : VA) : Prop := PA X es (LA b W t)
theorem pe_mono {X : Cx} {e : Expr} {t t' : TE} (h : PE X e t) (m : ∀ σ H Q, t' σ H Q → t σ H Q) : PE X e t' :=
  ⟨fun pins s σ H Q I q => h.run pins s σ H Q I (m σ H Q q)⟩
theorem pt_mono {X : Cx} {e : Expr} {t t' : TT} (h : PT X e t) (m : ∀ σ H Q, t' σ H Q → t σ H Q) : PT X e t' :=
  ⟨fun pins s σ H Q I q => h.run pins s σ H Q I (m σ H Q q)⟩
theorem pa_mono {X : Cx} {e : List Expr} {t t' : TA} (h : PA X e t) (m : ∀ σ H Q, t' σ H Q → t σ H Q) : PA X e t' :=
  ⟨fun pos pins s σ H Q I q => h.run pos pins s σ H Q I (m σ H Q q)⟩
theorem ps_mono {X : Cx} {e : Stmt} {t t' : TS} (h : PS X e t) (m : ∀ D σ H, t' D σ H → t D σ H) : PS X e t' :=
  ⟨fun pins s σ H D I q => h.run pins s σ H D I (m D σ H q)⟩
theorem pss_mono {X : Cx} {e : List Stmt} {t t' : TS} (h : PSs X e t) (m : ∀ D σ H, t' D σ H → t D σ H) : PSs X e t' :=
  ⟨fun pins s σ H D I q => h.run pins s σ H D I (m D σ H q)⟩
section
variable {X : Cx} {b : Bg} {W : WX} {e e1 e2 : Expr} {es : List Expr} {t t1 t2 : VT} {pos : Pos}
theorem VE.toX (h : VE X b W e t) : VX X b W e t := pe_mono h fun σ H Q ⟨Zo, Z, ρ, Qd, Ed, v, q, l, m⟩ => ⟨Zo, Z, ρ, Qd, Ed, v, q, fun u H' d x g r => l u H' d x g (.inl r), m⟩
theorem VN.toE (h : VN X b W e t) : VE X b W e t := pe_mono h fun σ H Q ⟨Zo, Z, ρ, Qd, Ed, v, q, l, m⟩ => ⟨Zo, Z, ρ, Qd, Ed, v, q, fun u H' d x g ⟨a, e, n, o⟩ => by
  subst e
  exact l _ H' d x g (o.rp (fun _ z => .inl z) (v.fresh n)), m⟩
theorem VN.toX (h : VN X b W e t) : VX X b W e t := VE.toX (VN.toE h)
/-! ### names, constants -/
@[simp] def vVar (i : Nat) : VT := fun ρ Q _ => ∃ d, ρ[i]? = some (.shr d) ∧ Q d
@[simp] def vBor (i : Nat) : VT := fun ρ Q _ => ∃ d, (ρ[i]? = some (.shr d) ∨ ρ[i]? = some (.own d)) ∧ Q d
@[simp] def vC (d : D) : VT := fun _ Q _ => Q d
theorem ve_var {i : Nat} (h : PE X e (tVar i)) : VE X b W e (vVar i) := pe_mono h fun σ H Q ⟨Zo, Z, ρ, Qd, Ed, v, ⟨d, e, q⟩, l, _⟩ => by
  obtain ⟨u, h1, h2⟩ := v.shr i d e
  exact ⟨u, h1, l u H d Ex.refl v.g h2 q⟩
theorem vx_var {i : Nat} (h : PE X e (tVar i)) : VX X b W e (vBor i) := pe_mono h fun σ H Q ⟨Zo, Z, ρ, Qd, Ed, v, ⟨d, e, q⟩, l, _⟩ => by
  rcases e with e | e
  · obtain ⟨u, h1, h2⟩ := v.shr i d e
    exact ⟨u, h1, l u H d Ex.refl v.g (.inl h2) q⟩
  · obtain ⟨a, h1, h2, h3, h4⟩ := v.own i d e
    exact ⟨.ref a, h1, l _ H d Ex.refl v.g (.inr ⟨a, rfl, fun z => h3 (v.zb a z), h2, h4⟩) q⟩
theorem ve_const {v : V} {p : PyData} (h : PE X e (tC v)) (r : ∀ (Z : Addr → Prop) (H : Hp), Rq Z H v p) : VE X b W e (vC (.py p)) :=
  pe_mono h fun σ H Q ⟨Zo, Z, ρ, Qd, Ed, v, q, l, _⟩ => l _ H (.py p) Ex.refl v.g (r Z H) q
theorem ve_int {i : Int} {j} : VE X b W (.Constant (.int i) j pos) (vC (.py (.int i))) := ve_const pe_int fun _ _ => .int i
theorem ve_bl {k : Bool} {j} : VE X b W (.Constant (.bool k) j pos) (vC (.py (.bool k))) := ve_const pe_bl fun _ _ => .bl k
theorem ve_non {j} : VE X b W (.Constant .none j pos) (vC (.py .none)) := ve_const pe_non fun _ _ => .non
theorem ve_str {x : Str} {j} : VE X b W (.Constant (.str x) j pos) (vC (.py (.str x))) := ve_const pe_str fun _ _ => .str x
theorem ve_raw {v : V} (h : PE X e (tC v)) : VE X b W e (vC (.raw v)) :=
  pe_mono h fun σ H Q ⟨Zo, Z, ρ, Qd, Ed, u, q, l, _⟩ => l v H (.raw v) Ex.refl u.g rfl q
/-! ### argument lists, displays -/
@[simp] def vNil : VA := fun _ Q _ => Q []
@[simp] def vCons (t : VT) (u : VA) : VA := fun ρ Q E => t ρ (fun d => u ρ (fun ds => Q (d :: ds)) E) E
theorem va_nil : VAs X b W [] vNil := pa_mono pa_nil fun σ H Q ⟨Zo, Z, ρ, Qd, Ed, v, q, l, _⟩ => l [] H [] Ex.refl v.g .nil q
theorem va_cons {u : VA} (h : VE X b W e t) (k : VAs X b W es u) (hs : starEach (e :: es) X.env = (false, eval e X.env) :: starEach es X.env := by rfl) : VAs X b W (e :: es) (vCons t u) :=
  pa_mono (pa_cons h k hs) fun σ H Q ⟨Zo, Z, ρ, Qd, Ed, v, q, l, m⟩ => ⟨Zo, Z, ρ, _, Ed, v, q, fun x H1 d x1 g1 r1 q1 =>
    ⟨Zo, Z, ρ, _, Ed, v.ex x1 g1, q1, fun xs H2 ds x2 g2 r2 q2 => l (x :: xs) H2 (d :: ds) (x1.trans x2) g2 (.cons ((v.ex x1 g1).rp x2 r1) r2) q2, fun c y H2 er x2 g2 r2 q2 => m c y H2 er (x1.trans x2) g2 r2 q2⟩, m⟩
@[simp] def pys : List D → Option (List PyData)
  | [] => some []
  | .py p :: ds => (pys ds).map (p :: ·)
  | _ :: _ => none
theorem pys_of : ∀ {ds : List D} {ps : List PyData}, pys ds = some ps → ds = ps.map D.py
  | [], ps, h => by cases h; rfl
  | .py p :: ds, ps, h => by
    cases e : pys ds with
    | none => rw [pys, e] at h; cases h
    | some qs => rw [pys, e] at h; cases h; rw [List.map_cons, ← pys_of e]
  | .obj _ _ _ :: _, _, h => by cases h
  | .abs _ :: _, _, h => by cases h
  | .raw _ :: _, _, h => by cases h
  | .err _ _ _ _ :: _, _, h => by cases h
theorem Rqs.up' {Z : Addr → Prop} {H : Hp} {a : Addr} {o : HO} {v : List V} {ds : List PyData} (r : Rqs Z H v ds) (h : H a = none) : Rqs (fun c => Z c ∨ c = a) (upd H a o) v ds :=
  r.mono (fun c z => z.imp id fun e => by rw [e]; exact h) fun c u e _ => by
    rw [upd_ne (ne_of_none e h)]
    exact e
/-- a tuple, a list of written items -/
@[simp] def vTup (u : VA) : VT := fun ρ Q E => u ρ (fun ds => ∃ ps, pys ds = some ps ∧ ps.length ≤ sizeLine ∧ Q (.py (.tuple ps))) E
@[simp] def vLst (u : VA) : VT := fun ρ Q E => u ρ (fun ds => ∃ ps, pys ds = some ps ∧ ps.length ≤ sizeLine ∧ Q (.py (.list ps))) E
theorem Rps.pyL {Z : Addr → Prop} {H : Hp} {v : List V} {ds : List D} {ps : List PyData} (r : Rps b Z H v ds) (e : VL.pys ds = some ps) : Rqs Z H v ps := by
  rw [pys_of e] at r
  exact r.pys
theorem up {Z : Addr → Prop} {H : Hp} {a : Addr} {o : HO} (h : H a = none) : ∀ c u, H c = some u → ¬ Z c → upd H a o c = some u := fun c u e _ => by
  rw [upd_ne (ne_of_none e h)]
  exact e
theorem Rqs.up {Z : Addr → Prop} {H : Hp} {a : Addr} {o : HO} {v : List V} {ds : List PyData} (r : Rqs Z H v ds) (h : H a = none) : Rqs Z (upd H a o) v ds := r.mono (fun _ z => .inl z) (VL.up h)
theorem ve_tup {u : VA} {x1} (k : VAs X b W es u) : VE X b W (.Tuple es x1 pos) (vTup u) :=
  pe_mono (pe_tupF k) fun σ H Q ⟨Zo, Z, ρ, Qd, Ed, v, q, l, m⟩ => ⟨Zo, Z, ρ, _, Ed, v, q, fun xs H1 ds x1 g1 r1 ⟨ps, e, hl, q1⟩ => by
    have r2 := r1.pyL e
    refine ⟨by rw [r2.length]; exact hl, fun p o hp ho => l _ _ _ (x1.trans (Ex.new hp)) (Bg.new g1 hp) ?_ q1⟩
    exact Rq.tup upd_same ho ((v.ex x1 g1).fresh hp) (r2.up hp), m⟩
theorem vn_lst {u : VA} (k : VAs X b W es u) : VN X b W (.List es pos) (vLst u) :=
  pe_mono (pe_lst k) fun σ H Q ⟨Zo, Z, ρ, Qd, Ed, v, q, l, m⟩ => ⟨Zo, Z, ρ, _, Ed, v, q, fun xs H1 ds x1 g1 r1 ⟨ps, e, hl, q1⟩ => (by
    have r2 := r1.pyL e
    refine ⟨by rw [r2.length]; exact hl, fun p hp => l _ _ (.py (.list ps)) (x1.trans (Ex.new hp)) (Bg.new g1 hp) ⟨p, rfl, ?_, xs, upd_same, r2.up' hp⟩ q1⟩
    cases e : H p with
    | none => rfl
    | some o =>
      by_cases hb : b.B p
      · exact absurd hp (b.dom _ _ g1 hb)
      · rw [x1 p o e hb] at hp; cases hp), m⟩
end
end VL
set_option Elab.async false
set_option linter.all false
set_option maxRecDepth 100000
set_option maxHeartbeats 4000000
namespace VL
open PySem PySem.Spec PyProof.Rows L2
/-! ### what a borrowed value is -/
section
variable {b : Bg} {Z : Addr → Prop} {H : Hp} {v : V}
theorem Rb.list {ds : List PyData} (r : Rb b Z H v (.py (.list ds))) : ∃ a xs, v = .ref a ∧ H a = some (.lst xs) ∧ Rqs Z H xs ds := by
  rcases r with r | ⟨a, e, _, _, xs, h, q⟩
  · cases r with
    | lst e n q => exact ⟨_, _, rfl, e, q⟩
  · exact ⟨a, xs, e, h, q⟩
theorem Rb.dict {ds : List (PyData × PyData)} (r : Rb b Z H v (.py (.dict ds))) : ∃ a xs, v = .ref a ∧ H a = some (.dK xs) ∧ Rqk Z H xs ds := by
  rcases r with r | ⟨a, e, _, _, xs, h, q⟩
  · cases r with
    | dct e n q => exact ⟨_, _, rfl, e, q⟩
  · exact ⟨a, xs, e, h, q⟩
theorem Rb.tuple {ds : List PyData} (r : Rb b Z H v (.py (.tuple ds))) : ∃ a o xs, v = .ref a ∧ H a = some (HO.th o xs) ∧ o.dict = none ∧ ¬ Z a ∧ Rqs Z H xs ds := by
  rcases r with r | ⟨a, e, _, _, q⟩
  · cases r with
    | tup e d n q => exact ⟨_, _, _, rfl, e, d, n, q⟩
  · exact q.elim
theorem Rb.int {i : Int} (r : Rb b Z H v (.py (.int i))) : v = .int i := by
  rcases r with r | ⟨a, e, _, _, q⟩
  · cases r; rfl
  · exact q.elim
theorem Rb.str {i : Str} (r : Rb b Z H v (.py (.str i))) : v = .str i := by
  rcases r with r | ⟨a, e, _, _, q⟩
  · cases r; rfl
  · exact q.elim
theorem Rb.bool {i : Bool} (r : Rb b Z H v (.py (.bool i))) : v = .bl i := by
  rcases r with r | ⟨a, e, _, _, q⟩
  · cases r; rfl
  · exact q.elim
theorem Rb.none (r : Rb b Z H v (.py .none)) : v = .non := by
  rcases r with r | ⟨a, e, _, _, q⟩
  · cases r; rfl
  · exact q.elim
theorem Rb.obj {a : Addr} {n : Str} {fs : List (Str × PyData)} (r : Rb b Z H v (.obj a n fs)) : ∃ dx xs, v = .ref a ∧ H a = some (.ins (b.cls n) dx xs) ∧ Rqf Z H xs fs := by
  rcases r with ⟨dx, xs, e, h, _, q⟩ | ⟨a, e, _, _, rfl, dx, xs, h, q⟩
  · exact ⟨dx, xs, e, h, q⟩
  · exact ⟨dx, xs, e, h, q⟩
theorem Rb.ex {H' : Hp} (hk : ∀ a o, H a = some o → ¬ Z a → H' a = some o) (x : Ex b H H') {d : D} (r : Rb b Z H v d) : Rb b Z H' v d := by
  rcases r with r | ⟨a, e, nb, z, q⟩
  · exact .inl (r.mono (fun _ z => .inl z) hk)
  · exact .inr ⟨a, e, nb, z, q.mono (fun _ z => .inl z) hk fun o h => x a o h nb⟩
end
/-- the ground of a rule by values: G stands, B lies in Z, Z is there -/
structure Gd (b : Bg) (Z : Addr → Prop) (H : Hp) : Prop where
  g : b.G H
  zb : ∀ a, b.B a → Z a
  dom : ∀ a, Z a → H a ≠ none
theorem VOk.gd {b : Bg} {Zo Z : Addr → Prop} {σ : L2.St} {H : Hp} {ρ : VEnv} (v : VOk b Zo Z σ H ρ) : Gd b Z H := ⟨v.g, fun a z => v.zo a (v.zb a z), v.dom⟩
section
variable {b : Bg} {Z : Addr → Prop} {H : Hp}
theorem Gd.fresh (g : Gd b Z H) {a : Addr} (h : H a = none) : ¬ Z a := fun z => g.dom a z h
theorem Gd.new (g : Gd b Z H) {a : Addr} {o : HO} (h : H a = none) : b.G (upd H a o) := Bg.new g.g h
end
/-- a rule by the heap's values serves a reading g over values; R: what comes of it -/
def OpD (b : Bg) (R : (Addr → Prop) → Hp → Hp → V → D → Prop) (r : R2) (g : D → D → (D → Prop) → Prop) : Prop :=
  ∀ (Z : Addr → Prop) (H : Hp) (x y : V) (dx dy : D) (Q : VK) (Qd : D → Prop), Gd b Z H → Rb b Z H x dx → Rb b Z H y dy → g dx dy Qd →
    (∀ v H' d, Ex b H H' → b.G H' → R Z H H' v d → Qd d → Q v H') → r x y H Q
abbrev RE (b : Bg) : (Addr → Prop) → Hp → Hp → V → D → Prop := fun Z _ H v d => Rp b Z H v d
abbrev RN (b : Bg) : (Addr → Prop) → Hp → Hp → V → D → Prop := fun Z H0 H v d => Rn b Z H0 H v d
@[simp] def vBin (g : D → D → (D → Prop) → Prop) (ta tb : VT) : VT := fun ρ Q E => ta ρ (fun x => tb ρ (fun y => g x y Q) E) E
@[simp] def vUn (g : D → (D → Prop) → Prop) (ta : VT) : VT := fun ρ Q E => ta ρ (fun x => g x Q) E
theorem Rn.of {b : Bg} {Z : Addr → Prop} {H H1 H2 : Hp} {v : V} {d : D} (g : b.G H1) (x : Ex b H H1) (r : Rn b Z H1 H2 v d) : Rn b Z H H2 v d := by
  obtain ⟨a, e, h, o⟩ := r
  refine ⟨a, e, ?_, o⟩
  cases q : H a with
  | none => rfl
  | some u =>
    by_cases hb : b.B a
    · exact absurd h (b.dom _ _ g hb)
    · rw [x a u q hb] at h; cases h
section
variable {X : Cx} {b : Bg} {W : WX} {e e1 e2 e3 : Expr} {es : List Expr} {t t1 t2 t3 : VT} {pos : Pos} {r : R2} {g : D → D → (D → Prop) → Prop}
/-- the core of all rules of two values -/
theorem core2 {R : (Addr → Prop) → Hp → Hp → V → D → Prop} (hR : ∀ Z H H1 H2 v d, b.G H1 → Ex b H H1 → R Z H1 H2 v d → R Z H H2 v d) (hd : OpD b R r g) :
    ∀ σ H Q, LE b W R (vBin g t1 t2) σ H Q → tOp r (LE b W (fun Z _ H v d => Rb b Z H v d) t1) (LE b W (fun Z _ H v d => Rb b Z H v d) t2) σ H Q :=
  fun σ H Q ⟨Zo, Z, ρ, Qd, Ed, v, q, l, m⟩ => ⟨Zo, Z, ρ, _, Ed, v, q, fun x H1 d x1 g1 r1 q1 =>
    ⟨Zo, Z, ρ, _, Ed, v.ex x1 g1, q1, fun y H2 d2 x2 g2 r2 q2 =>
      hd Z H2 x y d d2 Q Qd ((v.ex x1 g1).ex x2 g2).gd (r1.ex ((v.ex x1 g1).keep x2) x2) r2 q2 fun u H3 d3 x3 g3 r3 q3 => l u H3 d3 ((x1.trans x2).trans x3) g3 (hR _ _ _ _ _ _ g2 (x1.trans x2) r3) q3,
      fun c z H2 er x2 g2 r2 q2 => m c z H2 er (x1.trans x2) g2 r2 q2⟩, m⟩
theorem hRE : ∀ (Z : Addr → Prop) (H H1 H2 : Hp) (v : V) (d : D), b.G H1 → Ex b H H1 → RE b Z H1 H2 v d → RE b Z H H2 v d := fun _ _ _ _ _ _ _ _ r => r
theorem hRN : ∀ (Z : Addr → Prop) (H H1 H2 : Hp) (v : V) (d : D), b.G H1 → Ex b H H1 → RN b Z H1 H2 v d → RN b Z H H2 v d := fun _ _ _ _ _ _ g x r => r.of g x
theorem ve_op {op : Operator} (ho : OpR X (binaryOp op) r) (hd : OpD b (RE b) r g) (h1 : VX X b W e1 t1) (h2 : VX X b W e2 t2) : VE X b W (.BinOp e1 op e2 pos) (vBin g t1 t2) :=
  pe_mono (pe_op ho h1 h2) (core2 hRE hd)
theorem vn_op {op : Operator} (ho : OpR X (binaryOp op) r) (hd : OpD b (RN b) r g) (h1 : VX X b W e1 t1) (h2 : VX X b W e2 t2) : VN X b W (.BinOp e1 op e2 pos) (vBin g t1 t2) :=
  pe_mono (pe_op ho h1 h2) (core2 hRN hd)
theorem ve_cmp {op : CmpOp} (ho : OpR X (compareOp op) r) (hd : OpD b (RE b) r g) (h1 : VX X b W e1 t1) (h2 : VX X b W e2 t2) (hm : behindInMarks op e2 = false) : VE X b W (.Compare e1 [op] [e2] pos) (vBin g t1 t2) :=
  pe_mono (pe_cmpR ho h1 h2 hm) (core2 hRE hd)
/-- a value that is a bool, as a test -/
@[simp] def vTst (t : VT) : VB := fun ρ Q E => t ρ (fun d => ∃ k, d = .py (.bool k) ∧ Q k) E
theorem core2t (hd : OpD b (RE b) r g) : ∀ σ H Q, LB b W (vTst (vBin g t1 t2)) σ H Q → tTest (tOp r (LE b W (fun Z _ H v d => Rb b Z H v d) t1) (LE b W (fun Z _ H v d => Rb b Z H v d) t2)) σ H Q :=
  fun σ H Q ⟨Zo, Z, ρ, Qd, Ed, v, q, l, m⟩ => core2 (t1 := t1) (t2 := t2) hRE hd σ H _ ⟨Zo, Z, ρ, _, Ed, v, q, fun x H1 d x1 g1 r1 ⟨k, e, q1⟩ => ⟨k, by
    subst e
    exact Rb.bool (b := b) (.inl r1), l k H1 x1 g1 q1⟩, m⟩
theorem vt_cmp {op : CmpOp} (ho : OpR X (compareOp op) r) (hd : OpD b (RE b) r g) (h1 : VX X b W e1 t1) (h2 : VX X b W e2 t2) (hm : behindInMarks op e2 = false) : VTe X b W (.Compare e1 [op] [e2] pos) (vTst (vBin g t1 t2)) :=
  pt_mono (pt_cmpR ho h1 h2 hm) (core2t hd)
/-- any expression whose value is a bool, as a test -/
theorem vt_val (h : VX X b W e t) (he : ∀ whole, isTrue e X.env whole = (do let v ← whole; standAt e.pos; holding [v] (truthy v)) := by intro _; rfl) : VTe X b W e (vTst t) :=
  pt_mono (pt_val h he) fun σ H Q ⟨Zo, Z, ρ, Qd, Ed, v, q, l, m⟩ => ⟨Zo, Z, ρ, _, Ed, v, q, fun x H1 d x1 g1 r1 ⟨k, e, q1⟩ => ⟨k, by
    subst e
    exact r1.bool, l k H1 x1 g1 q1⟩, m⟩
/-! ### arithmetic -/
@[simp] def gAdd : D → D → (D → Prop) → Prop
  | .py (.int i), .py (.int j), Q => Q (.py (.int (i + j)))
  | .py (.str x), .py (.str y), Q => x.length + y.length ≤ sizeLine ∧ Q (.py (.str (x ++ y)))
  | .py (.list x), .py (.list y), Q => x.length + y.length ≤ sizeLine ∧ Q (.py (.list (x ++ y)))
  | .py (.tuple x), .py (.tuple y), Q => x.length + y.length ≤ sizeLine ∧ Q (.py (.tuple (x ++ y)))
  | _, _, _ => False
@[simp] def gCat : D → D → (D → Prop) → Prop
  | .py (.list x), .py (.list y), Q => x.length + y.length ≤ sizeLine ∧ Q (.py (.list (x ++ y)))
  | _, _, _ => False
theorem rn_catL : OpD b (RN b) rCat gCat := by
  intro Z H x y dx dy Q Qd gd rx ry h k
  match dx, dy, h, rx, ry with
  | .py (.list xs), .py (.list ys), ⟨hl, h⟩, rx, ry =>
    obtain ⟨a, us, rfl, ha, qa⟩ := rx.list
    obtain ⟨c, ws, rfl, hc, qc⟩ := ry.list
    refine ⟨a, c, us, ws, rfl, rfl, ha, hc, by rw [qa.length, qc.length]; exact hl, fun p hp => k _ _ (.py (.list (xs ++ ys))) (Ex.new hp) (gd.new hp) ⟨p, rfl, hp, _, upd_same, (qa.append qc).up' hp⟩ h⟩
theorem OpD.toE {r : R2} {g : D → D → (D → Prop) → Prop} (h : OpD b (RN b) r g) : OpD b (RE b) r g := fun Z H x y dx dy Q Qd gd rx ry q k =>
  h Z H x y dx dy Q Qd gd rx ry q fun v H' d x1 g1 ⟨a, e, n, o⟩ q1 => k v H' d x1 g1 (by subst e; exact o.rp (fun _ z => .inl z) (gd.fresh n)) q1
theorem rd_add : OpD b (RE b) (fun x y H Q => rI0 (fun i j => .int (i + j)) x y H Q ∨ (fun x y H Q => (∃ i j, x = .str i ∧ y = .str j ∧ i.length + j.length ≤ sizeLine ∧ Q (.str (i ++ j)) H) ∨ (fun x y H Q => rCat x y H Q ∨ rCatF X.K x y H Q) x y H Q) x y H Q) gAdd := by
  intro Z H x y dx dy Q Qd gd rx ry h k
  match dx, dy, h, rx, ry with
  | .py (.int i), .py (.int j), h, rx, ry =>
    rw [rx.int, ry.int]
    exact .inl ⟨i, j, rfl, rfl, k _ H (.py (.int (i + j))) Ex.refl gd.g (.int _) h⟩
  | .py (.str i), .py (.str j), ⟨hl, h⟩, rx, ry =>
    rw [rx.str, ry.str]
    exact .inr (.inl ⟨i, j, rfl, rfl, hl, k _ H (.py (.str (i ++ j))) Ex.refl gd.g (.str _) h⟩)
  | .py (.list xs), .py (.list ys), h, rx, ry =>
    exact .inr (.inr (.inl (OpD.toE rn_catL Z H x y (.py (.list xs)) (.py (.list ys)) Q Qd gd rx ry h k)))
  | .py (.tuple xs), .py (.tuple ys), ⟨hl, h⟩, rx, ry =>
    obtain ⟨a, oa, us, rfl, ha, da, na, qa⟩ := rx.tuple
    obtain ⟨c, oc, ws, rfl, hc, dc, nc, qc⟩ := ry.tuple
    refine .inr (.inr (.inr ⟨a, c, us, ws, rfl, rfl, SqT.th ha, SqT.th hc, by rw [qa.length, qc.length]; exact hl, fun e => ?_, fun _ e => ?_, fun _ _ p o hp ho => ?_⟩))
    · subst e
      cases qa
      exact k _ H (.py (.tuple ys)) Ex.refl gd.g (.tup hc dc nc qc) h
    · subst e
      cases qc
      rw [List.append_nil] at h
      exact k _ H (.py (.tuple xs)) Ex.refl gd.g (.tup ha da na qa) h
    · exact k _ _ (.py (.tuple (xs ++ ys))) (Ex.new hp) (gd.new hp) (.tup upd_same ho (gd.fresh hp) ((qa.append qc).up hp)) h
theorem ve_add (h1 : VX X b W e1 t1) (h2 : VX X b W e2 t2) : VE X b W (.BinOp e1 .Add e2 pos) (vBin gAdd t1 t2) := ve_op (OpR.or op_add (OpR.or op_add_str (OpR.or op_cat op_catF))) rd_add h1 h2
/-- ints in, under C; a plain value out -/
@[simp] def gI (C : Int → Int → Prop) (f : Int → Int → PyData) : D → D → (D → Prop) → Prop
  | .py (.int i), .py (.int j), Q => C i j ∧ Q (.py (f i j))
  | _, _, _ => False
theorem rd_I {C : Int → Int → Prop} {f : Int → Int → V} {f' : Int → Int → PyData} (hf : ∀ (Z : Addr → Prop) (H : Hp) i j, Rq Z H (f i j) (f' i j)) : OpD b (RE b) (rI C f) (gI C f') := by
  intro Z H x y dx dy Q Qd gd rx ry h k
  match dx, dy, h, rx, ry with
  | .py (.int i), .py (.int j), ⟨hc, h⟩, rx, ry =>
    rw [rx.int, ry.int]
    exact ⟨i, j, rfl, rfl, hc, k _ H (.py (f' i j)) Ex.refl gd.g (hf Z H i j) h⟩
/-- .. without a condition -/
@[simp] def gI0 (f : Int → Int → PyData) : D → D → (D → Prop) → Prop
  | .py (.int i), .py (.int j), Q => Q (.py (f i j))
  | _, _, _ => False
theorem rd_I0 {f : Int → Int → V} {f' : Int → Int → PyData} (hf : ∀ (Z : Addr → Prop) (H : Hp) i j, Rq Z H (f i j) (f' i j)) : OpD b (RE b) (rI0 f) (gI0 f') := by
  intro Z H x y dx dy Q Qd gd rx ry h k
  match dx, dy, h, rx, ry with
  | .py (.int i), .py (.int j), h, rx, ry =>
    rw [rx.int, ry.int]
    exact ⟨i, j, rfl, rfl, k _ H (.py (f' i j)) Ex.refl gd.g (hf Z H i j) h⟩
abbrev gSub := gI0 fun i j => .int (i - j)
abbrev gFdiv := gI CDivN fun i j => .int (i.fdiv j)
abbrev gPow := gI CPow fun i j => .int (i ^ j.toNat)
abbrev gLt := gI0 fun i j => .bool (decide (i < j))
abbrev gLe := gI0 fun i j => .bool (decide (i ≤ j))
abbrev gGt := gI0 fun i j => .bool (decide (j < i))
theorem ve_sub (h1 : VX X b W e1 t1) (h2 : VX X b W e2 t2) : VE X b W (.BinOp e1 .Sub e2 pos) (vBin gSub t1 t2) := ve_op op_sub (rd_I0 fun _ _ _ _ => .int _) h1 h2
theorem ve_fdiv (h1 : VX X b W e1 t1) (h2 : VX X b W e2 t2) : VE X b W (.BinOp e1 .FloorDiv e2 pos) (vBin gFdiv t1 t2) := ve_op op_fdivN (rd_I fun _ _ _ _ => .int _) h1 h2
theorem ve_pow (h1 : VX X b W e1 t1) (h2 : VX X b W e2 t2) : VE X b W (.BinOp e1 .Pow e2 pos) (vBin gPow t1 t2) := ve_op op_pow (rd_I fun _ _ _ _ => .int _) h1 h2
theorem ve_lt (h1 : VX X b W e1 t1) (h2 : VX X b W e2 t2) : VE X b W (.Compare e1 [.Lt] [e2] pos) (vBin gLt t1 t2) := ve_cmp op_lt (rd_I0 fun _ _ _ _ => .bl _) h1 h2 (nobehind _ (by decide) (by decide))
theorem ve_gt (h1 : VX X b W e1 t1) (h2 : VX X b W e2 t2) : VE X b W (.Compare e1 [.Gt] [e2] pos) (vBin gGt t1 t2) := ve_cmp op_gt (rd_I0 fun _ _ _ _ => .bl _) h1 h2 (nobehind _ (by decide) (by decide))
theorem vt_lt (h1 : VX X b W e1 t1) (h2 : VX X b W e2 t2) : VTe X b W (.Compare e1 [.Lt] [e2] pos) (vTst (vBin gLt t1 t2)) := vt_cmp op_lt (rd_I0 fun _ _ _ _ => .bl _) h1 h2 (nobehind _ (by decide) (by decide))
theorem vt_le (h1 : VX X b W e1 t1) (h2 : VX X b W e2 t2) : VTe X b W (.Compare e1 [.LtE] [e2] pos) (vTst (vBin gLe t1 t2)) := vt_cmp op_le (rd_I0 fun _ _ _ _ => .bl _) h1 h2 (nobehind _ (by decide) (by decide))
theorem vt_gt (h1 : VX X b W e1 t1) (h2 : VX X b W e2 t2) : VTe X b W (.Compare e1 [.Gt] [e2] pos) (vTst (vBin gGt t1 t2)) := vt_cmp op_gt (rd_I0 fun _ _ _ _ => .bl _) h1 h2 (nobehind _ (by decide) (by decide))
end
end VL
set_option Elab.async false
set_option linter.all false
set_option maxRecDepth 100000
set_option maxHeartbeats 4000000
namespace VL
open PySem PySem.Spec PyProof.Rows L2
abbrev nz : Addr → Prop := fun _ => False
section
variable {X : Cx} {pins : List (Addr × Obj)} {σ : L2.St} {H : Hp} {s : Shared} {Z : Addr → Prop}
theorem keys_read {h : Heap} {P : Program} {w : World} : ∀ {es : List DictEntry} {kvs : List (Key × V)} {vs : List (Key × Value)}, KV kvs vs → Pairs (mixKind P w) es vs →
    ReadsAll h (es.map (·.key)) (kvs.map fun p => kD p.1) [] ∧ Vals (kvs.map (·.2)) (es.map (·.val))
  | _, _, _, .nil, .nil => ⟨.nil, .nil⟩
  | _, _, _, .cons (a := p) (b := q) r t, .cons (e := e) hk hv hp => by
    obtain ⟨i1, i2⟩ := keys_read (h := h) t hp
    obtain ⟨p1, p2⟩ := p
    obtain ⟨q1, q2⟩ := q
    obtain ⟨e1, e2⟩ := r
    have e1' : p1 = q1 := e1
    subst e1'
    refine ⟨?_, .cons (show L2.RelV p2 e.val by rw [hv]; exact e2) i2⟩
    have hk' : keyIs p1 e.key = true := hk
    rcases keyIs_shape hk' with ⟨i, u, a1, a2⟩ | ⟨x, u, a1, a2⟩
    · subst a1
      rw [List.map_cons, List.map_cons, a2]
      exact ReadsAll.cons (as := []) (Reads.int i u) i1
    · subst a1
      rw [List.map_cons, List.map_cons, a2]
      exact ReadsAll.cons (as := []) (Reads.str x u) i1
mutual
theorem Rq.reads (I : Inv X pins σ H s) : ∀ {v : V} {d : PyData}, Rq Z H v d → ∀ u, RelV v u → ∃ as, Reads s.heap u d as ∧ ∀ a ∈ as, H a ≠ none
  | _, _, .non, _, r => by cases r; exact ⟨_, Reads.none, fun _ h => nomatch h⟩
  | _, _, .bl k, _, r => by cases r; exact ⟨_, Reads.bool k, fun _ h => nomatch h⟩
  | _, _, .int i, _, r => by obtain ⟨t, rfl⟩ := r; exact ⟨_, Reads.int i t, fun _ h => nomatch h⟩
  | _, _, .str x, _, r => by obtain ⟨t, rfl⟩ := r; exact ⟨_, Reads.str x t, fun _ h => nomatch h⟩
  | _, _, .lst (a := a) e n q, _, r => by
    cases r
    obtain ⟨its, rv, ⟨o, m, ho, hc, _, hd⟩, _⟩ := I.list (SqL.of e)
    obtain ⟨as, h1, h2⟩ := Rqs.reads I q _ rv
    refine ⟨_, Reads.list ho hc hd h1, fun b hb => ?_⟩
    rcases List.mem_cons.mp hb with rfl | hb
    · rw [e]; simp
    · exact h2 b hb
  | _, _, .tup (a := a) e _ n q, _, r => by
    cases r
    obtain ⟨its, rv, ⟨o, ho, hc, m, hd⟩, _⟩ := I.tuple (SqT.th e)
    obtain ⟨as, h1, h2⟩ := Rqs.reads I q _ rv
    exact ⟨_, Reads.tuple ho hc hd h1, h2⟩
  | _, _, .dct (a := a) (kvs := kvs) (ds := ds) e n q, _, r => by
    cases r
    obtain ⟨_, _, vs, kv, o, es, ep, ho, he, hd, _, hp, _⟩ := dk_of I.hok e
    obtain ⟨k1, k2⟩ := keys_read (h := s.heap) kv hp
    obtain ⟨bs, h1, h2, h3⟩ := Rqk.reads I q _ k2
    rw [h3] at k1
    refine ⟨_, Reads.dict ho he.1 hd k1 h1, fun b hb => ?_⟩
    rcases List.mem_append.mp hb with hb | hb
    · rw [List.mem_singleton.mp hb, e]; simp
    · exact h2 b hb
theorem Rqs.reads (I : Inv X pins σ H s) : ∀ {v : List V} {d : List PyData}, Rqs Z H v d → ∀ u, Vals v u → ∃ as, ReadsAll s.heap u d as ∧ ∀ a ∈ as, H a ≠ none
  | _, _, .nil, _, r => by cases r; exact ⟨_, ReadsAll.nil, fun _ h => nomatch h⟩
  | _, _, .cons q t, _, r => by
    cases r with
    | cons r rr =>
      obtain ⟨as, h1, h2⟩ := Rq.reads I q _ r
      obtain ⟨bs, h3, h4⟩ := Rqs.reads I t _ rr
      exact ⟨_, ReadsAll.cons h1 h3, fun a ha => (List.mem_append.mp ha).elim (h2 a) (h4 a)⟩
theorem Rqk.reads (I : Inv X pins σ H s) : ∀ {v : List (Key × V)} {d : List (PyData × PyData)}, Rqk Z H v d → ∀ u, Vals (v.map (·.2)) u → ∃ as, ReadsAll s.heap u (d.map (·.2)) as ∧ (∀ a ∈ as, H a ≠ none) ∧ v.map (fun p => kD p.1) = d.map (·.1)
  | _, _, .nil, _, r => by cases r; exact ⟨_, ReadsAll.nil, fun _ h => (nomatch h), rfl⟩
  | _, _, .cons q t, _, r => by
    cases r with
    | cons r rr =>
      obtain ⟨as, h1, h2⟩ := Rq.reads I q _ r
      obtain ⟨bs, h3, h4, h5⟩ := Rqk.reads I t _ rr
      exact ⟨_, ReadsAll.cons h1 h3, fun a ha => (List.mem_append.mp ha).elim (h2 a) (h4 a), by rw [List.map_cons, List.map_cons, h5]⟩
end
end
/-- a borrowed plain value, as data -/
theorem Rb.q {b : Bg} {Z : Addr → Prop} {H : Hp} {v : V} {p : PyData} (r : Rb b Z H v (.py p)) : Rq nz H v p := by
  rcases r with r | ⟨a, e, _, _, q⟩
  · exact Rq.mono (fun _ z => z.elim) (fun _ _ e _ => e) r
  · subst e
    exact Ow.rp (b := b) (d := .py p) (Z' := nz) (fun _ z => z.elim) (fun z => z) q
/-! ### ==, in -/
section
variable {X : Cx}
def rEqP : R2 := fun x y H Q => ∃ p q, Rq nz H x p ∧ Rq nz H y q ∧ p.plain = true ∧ q.plain = true ∧ (p.depth ≤ 60 ∨ q.depth ≤ 60) ∧ Q (.bl (p.eqv q)) H
def rNeP : R2 := fun x y H Q => ∃ p q, Rq nz H x p ∧ Rq nz H y q ∧ p.plain = true ∧ q.plain = true ∧ (p.depth ≤ 60 ∨ q.depth ≤ 60) ∧ Q (.bl (!p.eqv q)) H
theorem op_eqP (hu : X.A.units + 64 < cLine) : OpR X (compareOp .Eq) rEqP := by
  intro pins s σ H x y v u Q I rx ry ⟨p, q, hp, hq, p1, q1, hd, h⟩
  obtain ⟨as, r1, _⟩ := hp.reads I _ rx
  obtain ⟨bs, r2, _⟩ := hq.reads I _ ry
  exact SeqAt.eq_plain r1 r2 p1 q1 (by omega) ⟨.bl _, H, I, rfl, h⟩
theorem op_neP (hu : X.A.units + 64 < cLine) : OpR X (compareOp .NotEq) rNeP := by
  intro pins s σ H x y v u Q I rx ry ⟨p, q, hp, hq, p1, q1, hd, h⟩
  obtain ⟨as, r1, _⟩ := hp.reads I _ rx
  obtain ⟨bs, r2, _⟩ := hq.reads I _ ry
  exact SeqAt.ne_plain r1 r2 p1 q1 (by omega) ⟨.bl _, H, I, rfl, h⟩
def rInP (neg : Bool) : R2 := fun x y H Q => ∃ p qs, Rq nz H x p ∧ (Rq nz H y (.list qs) ∨ Rq nz H y (.tuple qs)) ∧ p.plain = true ∧ PyData.plainAll qs = true ∧ (p.depth ≤ 60 ∨ PyData.depthAll qs ≤ 60) ∧ Q (.bl (neg ^^ qs.any fun y => PyData.eqv y p)) H
theorem op_inP (hu : X.A.units + 64 < cLine) : OpR X (compareOp .In) (rInP false) := by
  intro pins s σ H x y v u Q I rx ry ⟨p, q, hp, hq, p1, q1, hd, h⟩
  obtain ⟨as, r1, _⟩ := hp.reads I _ rx
  rw [Bool.false_xor] at h
  rcases hq with hq | hq
  · obtain ⟨bs, r2, _⟩ := hq.reads I _ ry
    exact SeqAt.in_list_data r2 r1 q1 p1 (by omega) ⟨.bl _, H, I, rfl, h⟩
  · obtain ⟨bs, r2, _⟩ := hq.reads I _ ry
    exact SeqAt.in_tuple_data r2 r1 q1 p1 (by omega) ⟨.bl _, H, I, rfl, h⟩
theorem op_notInP (hu : X.A.units + 64 < cLine) : OpR X (compareOp .NotIn) (rInP true) := by
  intro pins s σ H x y v u Q I rx ry ⟨p, q, hp, hq, p1, q1, hd, h⟩
  obtain ⟨as, r1, _⟩ := hp.reads I _ rx
  rw [Bool.true_xor] at h
  rcases hq with hq | hq
  · obtain ⟨bs, r2, _⟩ := hq.reads I _ ry
    exact SeqAt.notIn_list_data r2 r1 q1 p1 (by omega) ⟨.bl _, H, I, rfl, h⟩
  · obtain ⟨bs, r2, _⟩ := hq.reads I _ ry
    exact SeqAt.notIn_tuple_data r2 r1 q1 p1 (by omega) ⟨.bl _, H, I, rfl, h⟩
end
/-- p == q, whatever plain data they are -/
@[simp] def gEq : D → D → (D → Prop) → Prop
  | .py (.tuple xs), .py (.tuple []), Q => Q (.py (.bool xs.isEmpty))
  | .py (.list xs), .py (.list []), Q => Q (.py (.bool xs.isEmpty))
  | .py p, .py q, Q => p.plain = true ∧ q.plain = true ∧ (p.depth ≤ 60 ∨ q.depth ≤ 60) ∧ Q (.py (.bool (p.eqv q)))
  | _, _, _ => False
@[simp] def gNe : D → D → (D → Prop) → Prop
  | .py (.tuple xs), .py (.tuple []), Q => Q (.py (.bool (!xs.isEmpty)))
  | .py (.list xs), .py (.list []), Q => Q (.py (.bool (!xs.isEmpty)))
  | .py p, .py q, Q => p.plain = true ∧ q.plain = true ∧ (p.depth ≤ 60 ∨ q.depth ≤ 60) ∧ Q (.py (.bool (!p.eqv q)))
  | _, _, _ => False
/-- x in c, c a list, a tuple, a text -/
@[simp] def gIn (neg : Bool) : D → D → (D → Prop) → Prop
  | .py (.str x), .py (.str y), Q => Q (.py (.bool (neg ^^ Txt.contains y x)))
  | .py p, .py (.list q), Q => p.plain = true ∧ PyData.plainAll q = true ∧ (p.depth ≤ 60 ∨ PyData.depthAll q ≤ 60) ∧ Q (.py (.bool (neg ^^ q.any fun y => PyData.eqv y p)))
  | .py p, .py (.tuple q), Q => p.plain = true ∧ PyData.plainAll q = true ∧ (p.depth ≤ 60 ∨ PyData.depthAll q ≤ 60) ∧ Q (.py (.bool (neg ^^ q.any fun y => PyData.eqv y p)))
  | _, _, _ => False
section
variable {X : Cx} {b : Bg} {W : WX} {e e1 e2 e3 : Expr} {es : List Expr} {t t1 t2 t3 : VT} {pos : Pos} {r : R2} {g : D → D → (D → Prop) → Prop}
/-- beside an empty one: no item is looked at -/
def rZ (K : PySem.W.Frag) (f : Bool → Bool) : R2 := fun x y H Q => ∃ a c xs, x = .ref a ∧ y = .ref c ∧ ((SqL K H a xs ∧ SqL K H c []) ∨ (SqT K H a xs ∧ SqT K H c [])) ∧ Q (.bl (f xs.isEmpty)) H
theorem op_eqZ (hu : X.A.units + 64 < cLine) : OpR X (compareOp .Eq) (rZ X.K id) := by
  intro pins s σ H x y v u Q I rx ry ⟨a, c, xs, ex, ey, hh, q⟩
  subst ex ey
  obtain rfl : v = .ref a := rx
  obtain rfl : u = .ref c := ry
  rcases hh with ⟨h1, h2⟩ | ⟨h1, h2⟩
  · obtain ⟨its, r, p, _⟩ := I.list h1
    obtain ⟨its2, r2, p2, _⟩ := I.list h2
    cases r2
    cases r with
    | nil => exact SeqAt.eq_listAt (e := fun _ => true) p.isList p2.isList rfl (by omega) (fun j h => absurd h (Nat.not_lt_zero j)) ⟨.bl _, H, I, rfl, q⟩
    | cons r rs => exact SeqAt.eq_list_lengthsAt p.isList p2.isList rfl (by omega) ⟨.bl _, H, I, rfl, q⟩
  · obtain ⟨its, r, p, _⟩ := I.tuple h1
    obtain ⟨its2, r2, p2, _⟩ := I.tuple h2
    cases r2
    refine SeqAt.eq_tupleAt (e := fun _ => true) p p2 (by omega) (fun j h1 h2 => absurd h2 (Nat.not_lt_zero j)) ⟨.bl _, H, I, ?_, q⟩
    cases r <;> simp [L2.RelV]
theorem op_neZ (hu : X.A.units + 64 < cLine) : OpR X (compareOp .NotEq) (rZ X.K not) := by
  intro pins s σ H x y v u Q I rx ry ⟨a, c, xs, ex, ey, hh, q⟩
  subst ex ey
  obtain rfl : v = .ref a := rx
  obtain rfl : u = .ref c := ry
  rcases hh with ⟨h1, h2⟩ | ⟨h1, h2⟩
  · obtain ⟨its, r, p, _⟩ := I.list h1
    obtain ⟨its2, r2, p2, _⟩ := I.list h2
    cases r2
    cases r with
    | nil => exact SeqAt.RcNeAt.lists (e := fun _ => true) p.isList p2.isList rfl (by omega) (fun j h => absurd h (Nat.not_lt_zero j)) _ _ _ _ ⟨.bl _, H, I, rfl, q⟩
    | cons r rs => exact SeqAt.RcNeAt.lists_lengths p.isList p2.isList rfl (by omega) _ _ _ _ ⟨.bl _, H, I, rfl, q⟩
  · obtain ⟨its, r, p, _⟩ := I.tuple h1
    obtain ⟨its2, r2, p2, _⟩ := I.tuple h2
    cases r2
    refine SeqAt.RcNeAt.tuples (e := fun _ => true) p p2 (by omega) (fun j h1 h2 => absurd h2 (Nat.not_lt_zero j)) _ _ _ _ ⟨.bl _, H, I, ?_, q⟩
    cases r <;> simp [L2.RelV]
theorem rz_of {f : Bool → Bool} {K : PySem.W.Frag} {Z : Addr → Prop} {H : Hp} {x y : V} {Q : VK} {Qd : D → Prop} {xs : List PyData} (gd : Gd b Z H) (h : Qd (.py (.bool (f xs.isEmpty)))) (k : ∀ v H' d, Ex b H H' → b.G H' → RE b Z H H' v d → Qd d → Q v H') :
    (Rb b Z H x (.py (.list xs)) → Rb b Z H y (.py (.list [])) → rZ K f x y H Q) ∧ (Rb b Z H x (.py (.tuple xs)) → Rb b Z H y (.py (.tuple [])) → rZ K f x y H Q) := by
  have ee : ∀ {us : List V}, Rqs Z H us xs → xs.isEmpty = us.isEmpty := fun q => by cases q <;> rfl
  refine ⟨fun rx ry => ?_, fun rx ry => ?_⟩
  · obtain ⟨a, us, rfl, ha, qa⟩ := rx.list
    obtain ⟨c, ws, rfl, hc, qc⟩ := ry.list
    cases qc
    exact ⟨a, c, us, rfl, rfl, .inl ⟨SqL.of ha, SqL.of hc⟩, k _ H (.py (.bool _)) Ex.refl gd.g (by rw [← ee qa]; exact .bl _) h⟩
  · obtain ⟨a, oa, us, rfl, ha, _, _, qa⟩ := rx.tuple
    obtain ⟨c, oc, ws, rfl, hc, _, _, qc⟩ := ry.tuple
    cases qc
    exact ⟨a, c, us, rfl, rfl, .inr ⟨SqT.th ha, SqT.th hc⟩, k _ H (.py (.bool _)) Ex.refl gd.g (by rw [← ee qa]; exact .bl _) h⟩
theorem rd_eq : OpD b (RE b) (fun x y H Q => rEqP x y H Q ∨ rZ X.K id x y H Q) gEq := by
  intro Z H x y dx dy Q Qd gd rx ry h k
  unfold gEq at h
  split at h
  · exact .inr ((rz_of (f := id) gd h k).2 rx ry)
  · exact .inr ((rz_of (f := id) gd h k).1 rx ry)
  · obtain ⟨h1, h2, h3, h⟩ := h
    exact .inl ⟨_, _, rx.q, ry.q, h1, h2, h3, k _ H (.py (.bool _)) Ex.refl gd.g (.bl _) h⟩
  · exact h.elim
theorem rd_ne : OpD b (RE b) (fun x y H Q => rNeP x y H Q ∨ rZ X.K not x y H Q) gNe := by
  intro Z H x y dx dy Q Qd gd rx ry h k
  unfold gNe at h
  split at h
  · exact .inr ((rz_of (f := not) gd h k).2 rx ry)
  · exact .inr ((rz_of (f := not) gd h k).1 rx ry)
  · obtain ⟨h1, h2, h3, h⟩ := h
    exact .inl ⟨_, _, rx.q, ry.q, h1, h2, h3, k _ H (.py (.bool _)) Ex.refl gd.g (.bl _) h⟩
  · exact h.elim
theorem ve_eq (hu : X.A.units + 64 < cLine) (h1 : VX X b W e1 t1) (h2 : VX X b W e2 t2) : VE X b W (.Compare e1 [.Eq] [e2] pos) (vBin gEq t1 t2) := ve_cmp (OpR.or (op_eqP hu) (op_eqZ hu)) rd_eq h1 h2 (nobehind _ (by decide) (by decide))
theorem vt_eq (hu : X.A.units + 64 < cLine) (h1 : VX X b W e1 t1) (h2 : VX X b W e2 t2) : VTe X b W (.Compare e1 [.Eq] [e2] pos) (vTst (vBin gEq t1 t2)) := vt_cmp (OpR.or (op_eqP hu) (op_eqZ hu)) rd_eq h1 h2 (nobehind _ (by decide) (by decide))
theorem vt_ne (hu : X.A.units + 64 < cLine) (h1 : VX X b W e1 t1) (h2 : VX X b W e2 t2) : VTe X b W (.Compare e1 [.NotEq] [e2] pos) (vTst (vBin gNe t1 t2)) := vt_cmp (OpR.or (op_neP hu) (op_neZ hu)) rd_ne h1 h2 (nobehind _ (by decide) (by decide))
def rInS2 : R2 := fun x y H Q => ∃ i j, x = .str i ∧ y = .str j ∧ Q (.bl (Txt.contains j i)) H
def rNotInS2 : R2 := fun x y H Q => ∃ i j, x = .str i ∧ y = .str j ∧ Q (.bl (!Txt.contains j i)) H
theorem op_inS2 : OpR X (compareOp .In) rInS2 := fun pins s σ H x y v u Q I rx ry ⟨i, j, e1, e2, q⟩ => op_in_str pins s σ H x y v u Q I rx ry ⟨i, j, e1, e2, q⟩
theorem op_notInS2 : OpR X (compareOp .NotIn) rNotInS2 := fun pins s σ H x y v u Q I rx ry ⟨i, j, e1, e2, q⟩ => op_notIn_str pins s σ H x y v u Q I rx ry ⟨i, j, e1, e2, by
  have e : (Builtin.Str.occurrences j i 0 j.length 1).isEmpty = !Txt.contains j i := by unfold Txt.contains; rw [Bool.not_not]
  first | exact q | (rw [e]; exact q)⟩
theorem rd_in {neg : Bool} (r0 : R2) (h0 : ∀ (H : Hp) (i j : Str) (Q : VK), Q (.bl (neg ^^ Txt.contains j i)) H → r0 (.str i) (.str j) H Q) : OpD b (RE b) (fun x y H Q => r0 x y H Q ∨ rInP neg x y H Q) (gIn neg) := by
  intro Z H x y dx dy Q Qd gd rx ry h k
  have lst : ∀ {p : PyData} {q : List PyData}, Rb b Z H x (.py p) → Rb b Z H y (.py (.list q)) → (p.plain = true ∧ PyData.plainAll q = true ∧ (p.depth ≤ 60 ∨ PyData.depthAll q ≤ 60) ∧ Qd (.py (.bool (neg ^^ q.any fun y => PyData.eqv y p)))) → rInP neg x y H Q :=
    fun {p q} rx ry ⟨h1, h2, h3, h⟩ => ⟨p, q, rx.q, .inl ry.q, h1, h2, h3, k _ H (.py (.bool _)) Ex.refl gd.g (.bl _) h⟩
  have tup : ∀ {p : PyData} {q : List PyData}, Rb b Z H x (.py p) → Rb b Z H y (.py (.tuple q)) → (p.plain = true ∧ PyData.plainAll q = true ∧ (p.depth ≤ 60 ∨ PyData.depthAll q ≤ 60) ∧ Qd (.py (.bool (neg ^^ q.any fun y => PyData.eqv y p)))) → rInP neg x y H Q :=
    fun {p q} rx ry ⟨h1, h2, h3, h⟩ => ⟨p, q, rx.q, .inr ry.q, h1, h2, h3, k _ H (.py (.bool _)) Ex.refl gd.g (.bl _) h⟩
  match dx, dy, h, rx, ry with
  | .py (.str i), .py (.str j), h, rx, ry =>
    rw [rx.str, ry.str]
    exact .inl (h0 H i j Q (k _ H (.py (.bool _)) Ex.refl gd.g (.bl _) h))
  | .py .none, .py (.list q), h, rx, ry => exact .inr (lst rx ry h)
  | .py (.bool _), .py (.list q), h, rx, ry => exact .inr (lst rx ry h)
  | .py (.int _), .py (.list q), h, rx, ry => exact .inr (lst rx ry h)
  | .py (.str _), .py (.list q), h, rx, ry => exact .inr (lst rx ry h)
  | .py (.list _), .py (.list q), h, rx, ry => exact .inr (lst rx ry h)
  | .py (.tuple _), .py (.list q), h, rx, ry => exact .inr (lst rx ry h)
  | .py .none, .py (.tuple q), h, rx, ry => exact .inr (tup rx ry h)
  | .py (.bool _), .py (.tuple q), h, rx, ry => exact .inr (tup rx ry h)
  | .py (.int _), .py (.tuple q), h, rx, ry => exact .inr (tup rx ry h)
  | .py (.str _), .py (.tuple q), h, rx, ry => exact .inr (tup rx ry h)
  | .py (.list _), .py (.tuple q), h, rx, ry => exact .inr (tup rx ry h)
  | .py (.tuple _), .py (.tuple q), h, rx, ry => exact .inr (tup rx ry h)
  | .py (.dict _), .py (.list q), h, rx, ry => exact .inr (lst rx ry h)
  | .py (.dict _), .py (.tuple q), h, rx, ry => exact .inr (tup rx ry h)
theorem ve_in (hu : X.A.units + 64 < cLine) (h1 : VX X b W e1 t1) (h2 : VX X b W e2 t2) (hm : behindInMarks .In e2 = false := by rfl) : VE X b W (.Compare e1 [.In] [e2] pos) (vBin (gIn false) t1 t2) :=
  ve_cmp (OpR.or op_inS2 (op_inP hu)) (rd_in rInS2 fun H i j Q q => ⟨i, j, rfl, rfl, by rw [Bool.false_xor] at q; exact q⟩) h1 h2 hm
theorem vt_in (hu : X.A.units + 64 < cLine) (h1 : VX X b W e1 t1) (h2 : VX X b W e2 t2) (hm : behindInMarks .In e2 = false := by rfl) : VTe X b W (.Compare e1 [.In] [e2] pos) (vTst (vBin (gIn false) t1 t2)) :=
  vt_cmp (OpR.or op_inS2 (op_inP hu)) (rd_in rInS2 fun H i j Q q => ⟨i, j, rfl, rfl, by rw [Bool.false_xor] at q; exact q⟩) h1 h2 hm
theorem vt_notIn (hu : X.A.units + 64 < cLine) (h1 : VX X b W e1 t1) (h2 : VX X b W e2 t2) (hm : behindInMarks .NotIn e2 = false := by rfl) : VTe X b W (.Compare e1 [.NotIn] [e2] pos) (vTst (vBin (gIn true) t1 t2)) :=
  vt_cmp (OpR.or op_notInS2 (op_notInP hu)) (rd_in rNotInS2 fun H i j Q q => ⟨i, j, rfl, rfl, by rw [Bool.true_xor] at q; exact q⟩) h1 h2 hm
/-! ### is None -/
@[simp] def isNn : PyData → Bool
  | .none => true
  | _ => false
@[simp] def gIsN (neg : Bool) : D → D → (D → Prop) → Prop
  | .py p, .py .none, Q => Q (.py (.bool (neg ^^ isNn p)))
  | .raw v, .py .none, Q => Q (.py (.bool (neg ^^ decide (v = V.non))))
  | .obj _ _ _, .py .none, Q => Q (.py (.bool neg))
  | _, _, _ => False
theorem Rq.isN {Z : Addr → Prop} {H : Hp} {v : V} {p : PyData} (r : Rq Z H v p) : decide (v = V.non) = isNn p := by
  cases r <;> rfl
theorem rd_isN {neg : Bool} {f : Bool → Bool} (hf : ∀ k, f k = (neg ^^ k)) : OpD b (RE b) (fun x y H Q => y = .non ∧ Q (.bl (f (decide (x = .non)))) H) (gIsN neg) := by
  intro Z H x y dx dy Q Qd gd rx ry h k
  match dx, dy, h, rx, ry with
  | .py p, .py .none, h, rx, ry =>
    refine ⟨ry.none, ?_⟩
    rw [rx.q.isN, hf]
    exact k _ H (.py (.bool _)) Ex.refl gd.g (.bl _) h
  | .raw v, .py .none, h, rx, ry =>
    refine ⟨ry.none, ?_⟩
    have e : x = v := by
      rcases rx with r | ⟨a, e, _, _, q⟩
      · exact r
      · exact q.elim
    rw [hf, e]
    exact k _ H (.py (.bool _)) Ex.refl gd.g (.bl _) h
  | .obj _ _ _, .py .none, h, rx, ry =>
    refine ⟨ry.none, ?_⟩
    obtain ⟨dx, xs, e, _⟩ := rx.obj
    subst e
    rw [hf, decide_eq_false (by intro h; cases h), Bool.xor_false]
    exact k _ H (.py (.bool _)) Ex.refl gd.g (.bl _) h
theorem ve_notN (h1 : VX X b W e1 t1) (h2 : VX X b W e2 t2) : VE X b W (.Compare e1 [.IsNot] [e2] pos) (vBin (gIsN true) t1 t2) := ve_cmp op_notN (rd_isN (f := not) fun k => by rw [Bool.true_xor]) h1 h2 (nobehind _ (by decide) (by decide))
theorem vt_isN (h1 : VX X b W e1 t1) (h2 : VX X b W e2 t2) : VTe X b W (.Compare e1 [.Is] [e2] pos) (vTst (vBin (gIsN false) t1 t2)) := vt_cmp op_isN (rd_isN (f := id) fun k => by rw [Bool.false_xor]; rfl) h1 h2 (nobehind _ (by decide) (by decide))
theorem vt_notN (h1 : VX X b W e1 t1) (h2 : VX X b W e2 t2) : VTe X b W (.Compare e1 [.IsNot] [e2] pos) (vTst (vBin (gIsN true) t1 t2)) := vt_cmp op_notN (rd_isN (f := not) fun k => by rw [Bool.true_xor]) h1 h2 (nobehind _ (by decide) (by decide))
/-! ### chains, and, or, not, if -/
@[simp] def vChain (g g' : D → D → (D → Prop) → Prop) (ta tb tc : VT) : VT := fun ρ Q E => ta ρ (fun x => tb ρ (fun y => g x y fun z => ∃ k, z = .py (.bool k) ∧ if k = true then tc ρ (fun w => g' y w Q) E else Q (.py (.bool false))) E) E
theorem chain_core {r' : R2} {g' : D → D → (D → Prop) → Prop} (hd : OpD b (RE b) r g) (hd' : OpD b (RE b) r' g') :
    ∀ σ H Q, LE b W (RE b) (vChain g g' t1 t2 t3) σ H Q → tChain r r' (LE b W (fun Z _ H v d => Rb b Z H v d) t1) (LE b W (fun Z _ H v d => Rb b Z H v d) t2) (LE b W (fun Z _ H v d => Rb b Z H v d) t3) σ H Q :=
  fun σ H Q ⟨Zo, Z, ρ, Qd, Ed, v, q, l, m⟩ => ⟨Zo, Z, ρ, _, Ed, v, q, fun x H1 d x1 g1 r1 q1 =>
    ⟨Zo, Z, ρ, _, Ed, v.ex x1 g1, q1, fun y H2 d2 x2 g2 r2 q2 => by
      have v2 := (v.ex x1 g1).ex x2 g2
      refine hd Z H2 x y d d2 _ _ v2.gd (r1.ex ((v.ex x1 g1).keep x2) x2) r2 q2 fun u H3 d3 x3 g3 r3 ⟨k, e3, q3⟩ => ?_
      subst e3
      refine ⟨k, Rb.bool (b := b) (Z := Z) (H := H3) (.inl r3), ?_⟩
      cases k with
      | false => exact l _ H3 (.py (.bool false)) ((x1.trans x2).trans x3) g3 (Rq.bl false) q3
      | true => exact ⟨Zo, Z, ρ, _, Ed, v2.ex x3 g3, q3, fun w H4 d4 x4 g4 r4 q4 => hd' Z H4 y w d2 d4 Q Qd ((v2.ex x3 g3).ex x4 g4).gd ((r2.ex (v2.keep x3) x3).ex ((v2.ex x3 g3).keep x4) x4) r4 q4
            fun u5 H5 d5 x5 g5 r5 q5 => l u5 H5 d5 ((((x1.trans x2).trans x3).trans x4).trans x5) g5 r5 q5,
          fun c z H4 er x4 g4 r4 q4 => m c z H4 er (((x1.trans x2).trans x3).trans x4) g4 r4 q4⟩,
      fun c z H2 er x2 g2 r2 q2 => m c z H2 er (x1.trans x2) g2 r2 q2⟩, m⟩
theorem ve_chain {op op' : CmpOp} {r' : R2} {g' : D → D → (D → Prop) → Prop} (ho : OpR X (compareOp op) r) (hd : OpD b (RE b) r g) (ho' : OpR X (compareOp op') r') (hd' : OpD b (RE b) r' g')
    (h1 : VX X b W e1 t1) (h2 : VX X b W e2 t2) (h3 : VX X b W e3 t3) (hm : lastMarks [op, op'] [e2, e3] = false) : VE X b W (.Compare e1 [op, op'] [e2, e3] pos) (vChain g g' t1 t2 t3) :=
  pe_mono (pe_chain ho ho' h1 h2 h3 hm) (chain_core hd hd')
theorem ve_le2 (h1 : VX X b W e1 t1) (h2 : VX X b W e2 t2) (h3 : VX X b W e3 t3) : VE X b W (.Compare e1 [.LtE, .LtE] [e2, e3] pos) (vChain gLe gLe t1 t2 t3) :=
  ve_chain op_le (rd_I0 fun _ _ _ _ => .bl _) op_le (rd_I0 fun _ _ _ _ => .bl _) h1 h2 h3 (by show behindInMarks _ _ = false; exact nobehind _ (by decide) (by decide))
@[simp] def vAnd (ta tb : VT) : VT := fun ρ Q E => ta ρ (fun x => ∃ k, x = .py (.bool k) ∧ if k = true then tb ρ Q E else Q (.py (.bool false))) E
@[simp] def vOr (ta tb : VT) : VT := fun ρ Q E => ta ρ (fun x => ∃ k, x = .py (.bool k) ∧ if k = true then Q (.py (.bool true)) else tb ρ Q E) E
@[simp] def vNot (ta : VT) : VT := fun ρ Q E => ta ρ (fun x => ∃ k, x = .py (.bool k) ∧ Q (.py (.bool (!k)))) E
theorem ve_one {op} (h : VE X b W e t) : VE X b W (.BoolOp op [e] pos) t := pe_one h
theorem ve_and (h1 : VX X b W e1 t1) (h2 : VE X b W (.BoolOp .And (e2 :: es) pos) t2) : VE X b W (.BoolOp .And (e1 :: e2 :: es) pos) (vAnd t1 t2) :=
  pe_mono (pe_and h1 h2) fun σ H Q ⟨Zo, Z, ρ, Qd, Ed, v, q, l, m⟩ => ⟨Zo, Z, ρ, _, Ed, v, q, fun x H1 d x1 g1 r1 ⟨k, e, q1⟩ => by
    subst e
    refine ⟨k, r1.bool, ?_⟩
    cases k with
    | false => exact l _ H1 (.py (.bool false)) x1 g1 (Rq.bl false) q1
    | true => exact ⟨Zo, Z, ρ, _, Ed, v.ex x1 g1, q1, fun y H2 d2 x2 g2 r2 q2 => l y H2 d2 (x1.trans x2) g2 r2 q2, fun c z H2 er x2 g2 r2 q2 => m c z H2 er (x1.trans x2) g2 r2 q2⟩, m⟩
theorem ve_not (h1 : VX X b W e1 t1) : VE X b W (.UnaryOp .Not e1 pos) (vNot t1) :=
  pe_mono (pe_not h1) fun σ H Q ⟨Zo, Z, ρ, Qd, Ed, v, q, l, m⟩ => ⟨Zo, Z, ρ, _, Ed, v, q, fun x H1 d x1 g1 r1 ⟨k, e, q1⟩ => by
    subst e
    exact ⟨k, r1.bool, l _ H1 (.py (.bool _)) x1 g1 (Rq.bl _) q1⟩, m⟩
@[simp] def vIf (c : VB) (ta tb : VT) : VT := fun ρ Q E => c ρ (fun k => if k = true then ta ρ Q E else tb ρ Q E) E
theorem ve_if {c : Expr} {tc : VB} (hc : VTe X b W c tc) (h1 : VE X b W e1 t1) (h2 : VE X b W e2 t2) : VE X b W (.IfExp c e1 e2 pos) (vIf tc t1 t2) :=
  pe_mono (pe_ifExp hc h1 h2) fun σ H Q ⟨Zo, Z, ρ, Qd, Ed, v, q, l, m⟩ => ⟨Zo, Z, ρ, _, Ed, v, q, fun k H1 x1 g1 q1 => by
    cases k with
    | true => exact ⟨Zo, Z, ρ, _, Ed, v.ex x1 g1, q1, fun y H2 d2 x2 g2 r2 q2 => l y H2 d2 (x1.trans x2) g2 r2 q2, fun c z H2 er x2 g2 r2 q2 => m c z H2 er (x1.trans x2) g2 r2 q2⟩
    | false => exact ⟨Zo, Z, ρ, _, Ed, v.ex x1 g1, q1, fun y H2 d2 x2 g2 r2 q2 => l y H2 d2 (x1.trans x2) g2 r2 q2, fun c z H2 er x2 g2 r2 q2 => m c z H2 er (x1.trans x2) g2 r2 q2⟩, m⟩
/-! ### tests -/
@[simp] def wAnd (t u : VB) : VB := fun ρ Q E => t ρ (fun c => if c = true then u ρ Q E else Q false) E
@[simp] def wOr (t u : VB) : VB := fun ρ Q E => t ρ (fun c => if c = true then Q true else u ρ Q E) E
@[simp] def wNot (t : VB) : VB := fun ρ Q E => t ρ (fun c => Q (!c)) E
/-- and, or: whatever their whole is -/
def VWe (X : Cx) (b : Bg) (W : WX) (e : Expr) (t : VB) : Prop := PW X e (LB b W t)
theorem pw_mono {e : Expr} {t t' : TT} (h : PW X e t) (m : ∀ σ H Q, t' σ H Q → t σ H Q) : PW X e t' := ⟨fun w pins s σ H Q I q => h.run w pins s σ H Q I (m σ H Q q)⟩
theorem VWe.pt {t : VB} (h : VWe X b W e t) : VTe X b W e t := PW.pt h
theorem lb_then {k : Bool} {u : VB} {Zo Z : Addr → Prop} {σ : L2.St} {H H1 : Hp} {ρ : VEnv} {Q : Bool → Hp → Prop} {Qd : Bool → Prop} {Ed : Er → Prop} (v : VOk b Zo Z σ H ρ) (l : ∀ k H', Ex b H H' → b.G H' → Qd k → Q k H') (m : ∀ c x H' er, Ex b H H' → b.G H' → ErRp b Z H' c x er → Ed er → W c x σ H')
    (x1 : Ex b H H1) (g1 : b.G H1) (q : u ρ Qd Ed) : LB b W u σ H1 Q :=
  ⟨Zo, Z, ρ, _, Ed, v.ex x1 g1, q, fun k H2 x2 g2 q2 => l k H2 (x1.trans x2) g2 q2, fun c z H2 er x2 g2 r2 q2 => m c z H2 er (x1.trans x2) g2 r2 q2⟩
theorem vw_and1 {t : VB} (h : VTe X b W e t) : VWe X b W (.BoolOp .And [e] pos) t := pw_and1 h
theorem vw_or1 {t : VB} (h : VTe X b W e t) : VWe X b W (.BoolOp .Or [e] pos) t := pw_or1 h
theorem vw_and {t u : VB} (h1 : VTe X b W e1 t) (h2 : VWe X b W (.BoolOp .And (e2 :: es) pos) u) : VWe X b W (.BoolOp .And (e1 :: e2 :: es) pos) (wAnd t u) :=
  pw_mono (pw_and h1 h2) fun σ H Q ⟨Zo, Z, ρ, Qd, Ed, v, q, l, m⟩ => ⟨Zo, Z, ρ, _, Ed, v, q, fun k H1 x1 g1 q1 => by
    cases k with
    | true => exact lb_then (k := true) v l m x1 g1 q1
    | false => exact l false H1 x1 g1 q1, m⟩
theorem vw_or {t u : VB} (h1 : VTe X b W e1 t) (h2 : VWe X b W (.BoolOp .Or (e2 :: es) pos) u) : VWe X b W (.BoolOp .Or (e1 :: e2 :: es) pos) (wOr t u) :=
  pw_mono (pw_or h1 h2) fun σ H Q ⟨Zo, Z, ρ, Qd, Ed, v, q, l, m⟩ => ⟨Zo, Z, ρ, _, Ed, v, q, fun k H1 x1 g1 q1 => by
    cases k with
    | false => exact lb_then (k := true) v l m x1 g1 q1
    | true => exact l true H1 x1 g1 q1, m⟩
theorem vt_not {t : VB} (h1 : VTe X b W e1 t) : VTe X b W (.UnaryOp .Not e1 pos) (wNot t) :=
  pt_mono (pt_not h1) fun σ H Q ⟨Zo, Z, ρ, Qd, Ed, v, q, l, m⟩ => ⟨Zo, Z, ρ, _, Ed, v, q, fun k H1 x1 g1 q1 => l _ H1 x1 g1 q1, m⟩
end
end VL
set_option Elab.async false
set_option linter.all false
set_option maxRecDepth 100000
set_option maxHeartbeats 4000000
namespace VL
open PySem PySem.Spec PyProof.Rows L2
/-- a text by its signs -/
abbrev mkS (l : List Nat) : Str := ⟨l.toArray⟩
abbrev sl (x : Str) : List Nat := x.cps.toList
/-! ### many borrowed values -/
inductive Rbs (b : Bg) (Z : Addr → Prop) (H : Hp) : List V → List D → Prop
  | nil : Rbs b Z H [] []
  | cons {v : V} {d : D} {vs : List V} {ds : List D} : Rb b Z H v d → Rbs b Z H vs ds → Rbs b Z H (v :: vs) (d :: ds)
def LAX (b : Bg) (W : WX) (t : VA) : TA := fun σ H Q => ∃ Zo Z ρ Qd Ed, VOk b Zo Z σ H ρ ∧ t ρ Qd Ed ∧
  (∀ v H' d, Ex b H H' → b.G H' → Rbs b Z H' v d → Qd d → Q v H') ∧ ∀ c x H' er, Ex b H H' → b.G H' → ErRp b Z H' c x er → Ed er → W c x σ H'
def VXs (X : Cx) (b : Bg) (W : WX) (es : List Expr) (t : VA) : Prop := PA X es (LAX b W t)
/-- a rule of a list of values -/
def CalD (b : Bg) (R : (Addr → Prop) → Hp → Hp → V → D → Prop) (r : List V → Hp → VK → Prop) (g : List D → (D → Prop) → Prop) : Prop :=
  ∀ (Z : Addr → Prop) (H : Hp) (x : List V) (dx : List D) (Q : VK) (Qd : D → Prop), Gd b Z H → Rbs b Z H x dx → g dx Qd → (∀ v H' d, Ex b H H' → b.G H' → R Z H H' v d → Qd d → Q v H') → r x H Q
@[simp] def vCal (g : List D → (D → Prop) → Prop) (ta : VA) : VT := fun ρ Q E => ta ρ (fun ds => g ds Q) E
@[simp] def vMet (g : D → List D → (D → Prop) → Prop) (to : VT) (ta : VA) : VT := fun ρ Q E => to ρ (fun d => ta ρ (fun ds => g d ds Q) E) E
section
variable {X : Cx} {b : Bg} {W : WX} {e e1 e2 e3 : Expr} {es : List Expr} {t t1 t2 t3 : VT} {u : VA} {pos p : Pos} {r : List V → Hp → VK → Prop} {g : List D → (D → Prop) → Prop} {x : Str} {id T : String}
theorem vxs_nil : VXs X b W [] vNil := pa_mono pa_nil fun σ H Q ⟨Zo, Z, ρ, Qd, Ed, v, q, l, _⟩ => l [] H [] Ex.refl v.g .nil q
theorem vxs_cons (h : VX X b W e t) (k : VXs X b W es u) (hs : starEach (e :: es) X.env = (false, eval e X.env) :: starEach es X.env := by rfl) : VXs X b W (e :: es) (vCons t u) :=
  pa_mono (pa_cons h k hs) fun σ H Q ⟨Zo, Z, ρ, Qd, Ed, v, q, l, m⟩ => ⟨Zo, Z, ρ, _, Ed, v, q, fun x H1 d x1 g1 r1 q1 =>
    ⟨Zo, Z, ρ, _, Ed, v.ex x1 g1, q1, fun xs H2 ds x2 g2 r2 q2 => l (x :: xs) H2 (d :: ds) (x1.trans x2) g2 (.cons (r1.ex ((v.ex x1 g1).keep x2) x2) r2) q2, fun c y H2 er x2 g2 r2 q2 => m c y H2 er (x1.trans x2) g2 r2 q2⟩, m⟩
theorem coreC {R : (Addr → Prop) → Hp → Hp → V → D → Prop} (hR : ∀ Z H H1 H2 v d, b.G H1 → Ex b H H1 → R Z H1 H2 v d → R Z H H2 v d) (hd : CalD b R r g) : ∀ σ H Q, LE b W R (vCal g u) σ H Q → tCB r (LAX b W u) σ H Q :=
  fun σ H Q ⟨Zo, Z, ρ, Qd, Ed, v, q, l, m⟩ => ⟨Zo, Z, ρ, _, Ed, v, q, fun xs H1 ds x1 g1 r1 q1 => hd Z H1 xs ds Q Qd (v.ex x1 g1).gd r1 q1 fun w H2 d x2 g2 r2 q2 => l w H2 d (x1.trans x2) g2 (hR _ _ _ _ _ _ g1 x1 r2) q2, m⟩
theorem ve_callB (hc : CallR X (.builtin id) r) (hd : CalD b (RE b) r g) (hg : Gl X x) (hm : X.mg x = none) (hv : bootBuiltins x = some (.builtin id)) (ha : VXs X b W (e :: es) u) (hn : x ≠ "__name__" := by decide) (hdb : (x == ("__debug__" : Str)) = false := by decide)
    (he : starEach (e :: es) X.env = (false, eval e X.env) :: starEach es X.env := by rfl) (hpl : (backTo pos (starEach es X.env)).any (·.1) = false := by rfl) : VE X b W (.Call (.Name x p) (e :: es) [] pos) (vCal g u) :=
  pe_mono (pe_callB hc hg hm hv ha hn hdb he hpl) (coreC hRE hd)
theorem vn_callB (hc : CallR X (.builtin id) r) (hd : CalD b (RN b) r g) (hg : Gl X x) (hm : X.mg x = none) (hv : bootBuiltins x = some (.builtin id)) (ha : VXs X b W (e :: es) u) (hn : x ≠ "__name__" := by decide) (hdb : (x == ("__debug__" : Str)) = false := by decide)
    (he : starEach (e :: es) X.env = (false, eval e X.env) :: starEach es X.env := by rfl) (hpl : (backTo pos (starEach es X.env)).any (·.1) = false := by rfl) : VN X b W (.Call (.Name x p) (e :: es) [] pos) (vCal g u) :=
  pe_mono (pe_callB hc hg hm hv ha hn hdb he hpl) (coreC hRN hd)
theorem ve_callTy (hc : CallR X (.type T) r) (hd : CalD b (RE b) r g) (hg : Gl X x) (hm : X.mg x = none) (hv : bootBuiltins x = some (.type T)) (ha : VXs X b W (e :: es) u) (hn : x ≠ "__name__" := by decide) (hdb : (x == ("__debug__" : Str)) = false := by decide)
    (he : starEach (e :: es) X.env = (false, eval e X.env) :: starEach es X.env := by rfl) (hpl : (backTo pos (starEach es X.env)).any (·.1) = false := by rfl) : VE X b W (.Call (.Name x p) (e :: es) [] pos) (vCal g u) :=
  pe_mono (pe_callTy hc hg hm hv ha hn hdb he hpl) (coreC hRE hd)
/-! ### items -/
@[simp] def gIx : D → D → (D → Prop) → Prop
  | .py (.list xs), .py (.int i), Q => ∃ d, atI xs i = some d ∧ Q (.py d)
  | .py (.tuple xs), .py (.int i), Q => ∃ d, atI xs i = some d ∧ Q (.py d)
  | .py (.str z), .py (.int i), Q => z.length ≤ sizeLine ∧ ∃ c, atI z.cps.toList i = some c ∧ Q (.py (.str (mkS [c])))
  | _, _, _ => False
theorem Rqs.atI {Z : Addr → Prop} {H : Hp} {v : List V} {d : List PyData} {i : Int} {x : PyData} (r : Rqs Z H v d) (h : L2.atI d i = some x) : ∃ u, L2.atI v i = some u ∧ Rq Z H u x := by
  unfold L2.atI at h ⊢
  rw [r.length]
  cases e : ixN d.length i with
  | none => rw [e] at h; cases h
  | some j =>
    rw [e] at h
    exact r.get h
theorem rd_ix {K : PySem.W.Frag} : OpD b (RE b) (rIx K) gIx := by
  intro Z H x y dx dy Q Qd gd rx ry h k
  match dx, dy, h, rx, ry with
  | .py (.list xs), .py (.int i), ⟨d, e, h⟩, rx, ry =>
    obtain ⟨a, us, rfl, ha, qa⟩ := rx.list
    obtain ⟨w, e1, r1⟩ := qa.atI e
    exact .inl ⟨a, us, i, w, rfl, ry.int, SqL.of ha, e1, k w H (.py d) Ex.refl gd.g r1 h⟩
  | .py (.tuple xs), .py (.int i), ⟨d, e, h⟩, rx, ry =>
    obtain ⟨a, oa, us, rfl, ha, da, na, qa⟩ := rx.tuple
    obtain ⟨w, e1, r1⟩ := qa.atI e
    exact .inr (.inl ⟨a, us, i, w, rfl, ry.int, SqT.th ha, e1, k w H (.py d) Ex.refl gd.g r1 h⟩)
  | .py (.str z), .py (.int i), ⟨hl, c, e, h⟩, rx, ry =>
    exact .inr (.inr ⟨z, i, c, rx.str, ry.int, hl, e, k _ H (.py (.str (mkS [c]))) Ex.refl gd.g (.str _) h⟩)
theorem ve_ix (h1 : VX X b W e1 t1) (h2 : VX X b W e2 t2) (hs : PlainIx e2 := by exact fun _ _ => rfl) : VE X b W (.Subscript e1 e2 pos) (vBin gIx t1 t2) :=
  pe_mono (pe_ix ix_seq h1 h2 hs) (core2 hRE rd_ix)
/-! ### slices -/
def cutL {α : Type} (xs : List α) (lo hi : Option Int) : List α := (xs.drop (HT.sIx xs.length 0 lo)).take (HT.sIx xs.length xs.length hi - HT.sIx xs.length 0 lo)
theorem Rqs.cut {Z : Addr → Prop} {H : Hp} {v : List V} {d : List PyData} (lo hi : Option Int) (r : Rqs Z H v d) : Rqs Z H (cutV v lo hi) (cutL d lo hi) := by
  unfold cutV cutL
  rw [r.length]
  exact (r.drop _).take _
theorem cutL_whole {α : Type} {xs : List α} {lo hi : Option Int} (h : HT.sIx xs.length 0 lo = 0 ∧ HT.sIx xs.length xs.length hi = xs.length) : cutL xs lo hi = xs := by
  unfold cutL
  rw [h.1, h.2]
  simp
abbrev VO := VEnv → (Option Int → Prop) → (Er → Prop) → Prop
def LO (b : Bg) (W : WX) (t : VO) : TO := fun σ H Q => ∃ Zo Z ρ Qd Ed, VOk b Zo Z σ H ρ ∧ t ρ Qd Ed ∧
  (∀ k H', Ex b H H' → b.G H' → Qd k → Q k H') ∧ ∀ c x H' er, Ex b H H' → b.G H' → ErRp b Z H' c x er → Ed er → W c x σ H'
def VPt (X : Cx) (b : Bg) (W : WX) (e : Option Expr) (t : VO) : Prop := PO X e (LO b W t)
theorem po_mono {e : Option Expr} {t t' : TO} (h : PO X e t) (m : ∀ σ H Q, t' σ H Q → t σ H Q) : PO X e t' := ⟨fun pins s σ H Q I q => h.run pins s σ H Q I (m σ H Q q)⟩
@[simp] def oNo : VO := fun _ Q _ => Q none
@[simp] def oAt (t : VT) : VO := fun ρ Q E => t ρ (fun d => ∃ i, d = .py (.int i) ∧ Q (some i)) E
theorem vo_no : VPt X b W none oNo := po_mono po_none fun σ H Q ⟨Zo, Z, ρ, Qd, Ed, v, q, l, m⟩ => l none H Ex.refl v.g q
theorem vo_at (h : VX X b W e t) : VPt X b W (some e) (oAt t) := po_mono (po_some h) fun σ H Q ⟨Zo, Z, ρ, Qd, Ed, v, q, l, m⟩ => ⟨Zo, Z, ρ, _, Ed, v, q, fun x H1 d x1 g1 r1 ⟨i, e, q1⟩ => by
    subst e
    exact ⟨i, r1.int, l _ H1 x1 g1 q1⟩, m⟩
@[simp] def gSl : D → Option Int → Option Int → (D → Prop) → Prop
  | .py (.list xs), lo, hi, Q => Q (.py (.list (cutL xs lo hi)))
  | .py (.tuple xs), lo, hi, Q => Q (.py (.tuple (cutL xs lo hi)))
  | .py (.str z), lo, hi, Q => z.length ≤ sizeLine ∧ Q (.py (.str (mkS (cutL z.cps.toList lo hi))))
  | _, _, _, _ => False
@[simp] def gSlL : D → Option Int → Option Int → (D → Prop) → Prop
  | .py (.list xs), lo, hi, Q => Q (.py (.list (cutL xs lo hi)))
  | _, _, _, _ => False
@[simp] def vSl (g : D → Option Int → Option Int → (D → Prop) → Prop) (t : VT) (tl th : VO) : VT := fun ρ Q E => t ρ (fun x => tl ρ (fun lo => th ρ (fun hi => g x lo hi Q) E) E) E
def SliD (b : Bg) (R : (Addr → Prop) → Hp → Hp → V → D → Prop) (r : V → Option Int → Option Int → Hp → VK → Prop) (g : D → Option Int → Option Int → (D → Prop) → Prop) : Prop :=
  ∀ (Z : Addr → Prop) (H : Hp) (x : V) (lo hi : Option Int) (dx : D) (Q : VK) (Qd : D → Prop), Gd b Z H → Rb b Z H x dx → g dx lo hi Qd → (∀ v H' d, Ex b H H' → b.G H' → R Z H H' v d → Qd d → Q v H') → r x lo hi H Q
theorem coreS {R : (Addr → Prop) → Hp → Hp → V → D → Prop} {r : V → Option Int → Option Int → Hp → VK → Prop} {g : D → Option Int → Option Int → (D → Prop) → Prop} {tl th : VO} (hR : ∀ Z H H1 H2 v d, b.G H1 → Ex b H H1 → R Z H1 H2 v d → R Z H H2 v d) (hd : SliD b R r g) :
    ∀ σ H Q, LE b W R (vSl g t tl th) σ H Q → tSl r (LE b W (fun Z _ H v d => Rb b Z H v d) t) (LO b W tl) (LO b W th) σ H Q :=
  fun σ H Q ⟨Zo, Z, ρ, Qd, Ed, v, q, l, m⟩ => ⟨Zo, Z, ρ, _, Ed, v, q, fun x H1 d x1 g1 r1 q1 =>
    ⟨Zo, Z, ρ, _, Ed, v.ex x1 g1, q1, fun lo H2 x2 g2 q2 => ⟨Zo, Z, ρ, _, Ed, (v.ex x1 g1).ex x2 g2, q2, fun hi H3 x3 g3 q3 =>
        hd Z H3 x lo hi d Q Qd (((v.ex x1 g1).ex x2 g2).ex x3 g3).gd ((r1.ex ((v.ex x1 g1).keep x2) x2).ex (((v.ex x1 g1).ex x2 g2).keep x3) x3) q3 fun u H4 d4 x4 g4 r4 q4 => l u H4 d4 (((x1.trans x2).trans x3).trans x4) g4 (hR _ _ _ _ _ _ g3 ((x1.trans x2).trans x3) r4) q4,
        fun c z H3 er x3 g3 r3 q3 => m c z H3 er ((x1.trans x2).trans x3) g3 r3 q3⟩,
      fun c z H2 er x2 g2 r2 q2 => m c z H2 er (x1.trans x2) g2 r2 q2⟩, m⟩
theorem rd_slL {K : PySem.W.Frag} : SliD b (RN b) (rSlL K) gSlL := by
  intro Z H x lo hi dx Q Qd gd rx h k
  match dx, h, rx with
  | .py (.list xs), h, rx =>
    obtain ⟨a, us, rfl, ha, qa⟩ := rx.list
    exact ⟨a, us, rfl, SqL.of ha, fun p hp => k _ _ (.py (.list (cutL xs lo hi))) (Ex.new hp) (gd.new hp) ⟨p, rfl, hp, _, upd_same, (qa.cut lo hi).up' hp⟩ h⟩
theorem cutS_eq (z : Str) (lo hi : Option Int) : cutS z lo hi = mkS (cutL z.cps.toList lo hi) := by
  unfold cutS cutL
  first | rfl | simp [Str.length]
theorem rd_sl {K : PySem.W.Frag} : SliD b (RE b) (fun x lo hi H Q => rSlL K x lo hi H Q ∨ (fun x lo hi H Q => rSlF K x lo hi H Q ∨ rSlS x lo hi H Q) x lo hi H Q) gSl := by
  intro Z H x lo hi dx Q Qd gd rx h k
  match dx, h, rx with
  | .py (.list xs), h, rx =>
    refine .inl (rd_slL Z H x lo hi (.py (.list xs)) Q Qd gd rx h fun v H' d x1 g1 ⟨a, e, n, o⟩ q1 => k v H' d x1 g1 ?_ q1)
    subst e
    exact o.rp (fun _ z => .inl z) (gd.fresh n)
  | .py (.tuple xs), h, rx =>
    obtain ⟨a, oa, us, rfl, ha, da, na, qa⟩ := rx.tuple
    refine .inr (.inl ⟨a, us, rfl, SqT.th ha, fun hw => ?_, fun _ p o hp ho => ?_⟩)
    · rw [qa.length] at hw
      have h : Qd (.py (.tuple (cutL xs lo hi))) := h
      rw [cutL_whole hw] at h
      exact k _ H (.py (.tuple xs)) Ex.refl gd.g (.tup ha da na qa) h
    · exact k _ _ (.py (.tuple (cutL xs lo hi))) (Ex.new hp) (gd.new hp) (.tup upd_same ho (gd.fresh hp) ((qa.cut lo hi).up hp)) h
  | .py (.str z), ⟨hl, h⟩, rx =>
    refine .inr (.inr ⟨z, rx.str, hl, ?_⟩)
    rw [cutS_eq]
    exact k _ H (.py (.str _)) Ex.refl gd.g (.str _) h
theorem ve_sl {lo hi : Option Expr} {tl th : VO} {p2 : Pos} (h : VX X b W e t) (h1 : VPt X b W lo tl) (h2 : VPt X b W hi th) : VE X b W (.Subscript e (.Slice lo hi none p2) pos) (vSl gSl t tl th) :=
  pe_mono (pe_slice (sl_list.or (sl_tupF.or sl_str)) h h1 h2) (coreS hRE rd_sl)
end
end VL
set_option Elab.async false
set_option linter.all false
set_option maxRecDepth 100000
set_option maxHeartbeats 4000000
namespace VL
open PySem PySem.Spec PyProof.Rows L2
section
variable {X : Cx} {b : Bg} {W : WX} {e e1 e2 e3 o : Expr} {es : List Expr} {t t1 t2 t3 : VT} {u : VA} {pos p apos cpos : Pos} {x name : Str} {id T : String}
theorem Rbs.one {Z : Addr → Prop} {H : Hp} {v : List V} {d : D} (r : Rbs b Z H v [d]) : ∃ x, v = [x] ∧ Rb b Z H x d := by
  cases r with
  | cons r t => cases t; exact ⟨_, rfl, r⟩
theorem Rbs.two {Z : Addr → Prop} {H : Hp} {v : List V} {d d2 : D} (r : Rbs b Z H v [d, d2]) : ∃ x y, v = [x, y] ∧ Rb b Z H x d ∧ Rb b Z H y d2 := by
  cases r with
  | cons r t =>
    cases t with
    | cons r2 t => cases t; exact ⟨_, _, rfl, r, r2⟩
/-! ### built-in functions -/
@[simp] def gLen : List D → (D → Prop) → Prop
  | [.py (.list xs)], Q => Q (.py (.int xs.length))
  | [.py (.tuple xs)], Q => Q (.py (.int xs.length))
  | [.py (.str z)], Q => z.length ≤ sizeLine ∧ Q (.py (.int z.length))
  | [.py (.dict xs)], Q => Q (.py (.int xs.length))
  | _, _ => False
def rLen (K : PySem.W.Frag) : List V → Hp → VK → Prop := fun xs H Q => (fun xs H Q => ∃ x n, xs = [x] ∧ LenV K x H n ∧ Q (.int n) H) xs H Q ∨ (fun xs H Q => ∃ a kvs, xs = [V.ref a] ∧ H a = some (.dK kvs) ∧ Q (.int kvs.length) H) xs H Q
theorem rd_len : CalD b (RE b) (rLen X.K) gLen := by
  intro Z H vs ds Q Qd gd rx h k
  match ds, h, rx with
  | [.py (.list xs)], h, rx =>
    obtain ⟨x, rfl, r⟩ := rx.one
    obtain ⟨a, us, rfl, ha, qa⟩ := r.list
    exact .inl ⟨_, us.length, rfl, .inl ⟨us, SqL.of ha, rfl⟩, k _ H (.py (.int us.length)) Ex.refl gd.g (.int _) (by rw [qa.length]; exact h)⟩
  | [.py (.tuple xs)], h, rx =>
    obtain ⟨x, rfl, r⟩ := rx.one
    obtain ⟨a, oa, us, rfl, ha, da, na, qa⟩ := r.tuple
    exact .inl ⟨_, us.length, rfl, .inr ⟨us, SqT.th ha, rfl⟩, k _ H (.py (.int us.length)) Ex.refl gd.g (.int _) (by rw [qa.length]; exact h)⟩
  | [.py (.str z)], ⟨hl, h⟩, rx =>
    obtain ⟨x, rfl, r⟩ := rx.one
    exact .inl ⟨_, z.length, rfl, (by rw [r.str]; exact ⟨hl, rfl⟩), k _ H (.py (.int z.length)) Ex.refl gd.g (.int _) h⟩
  | [.py (.dict xs)], h, rx =>
    obtain ⟨x, rfl, r⟩ := rx.one
    obtain ⟨a, us, rfl, ha, qa⟩ := r.dict
    exact .inr ⟨a, us, rfl, ha, k _ H (.py (.int us.length)) Ex.refl gd.g (.int _) (by rw [qa.length]; exact h)⟩
theorem ve_len (hg : Gl X "len") (hm : X.mg "len" = none) (ha : VXs X b W [e] u) (he : starEach [e] X.env = (false, eval e X.env) :: starEach [] X.env := by rfl) (hpl : (backTo pos (starEach [] X.env)).any (·.1) = false := by rfl) :
    VE X b W (.Call (.Name "len" p) [e] [] pos) (vCal gLen u) := ve_callB (CallR.or call_len call_lenD) rd_len hg hm PySem.boot_len ha (by decide) (by decide) he hpl
@[simp] def gAbs : List D → (D → Prop) → Prop
  | [.py (.int i)], Q => Q (.py (.int (if i < 0 then -i else i)))
  | _, _ => False
@[simp] def gInt : List D → (D → Prop) → Prop
  | [.py (.int i)], Q => Q (.py (.int i))
  | [.py (.bool k)], Q => Q (.py (.int (if k then 1 else 0)))
  | [.py (.str z)], Q => ∃ n, intText? z = some n ∧ z.length ≤ 640 ∧ Q (.py (.int n))
  | _, _ => False
theorem rd_int : CalD b (RE b) (fun xs H Q => (fun xs H Q => (∃ i, xs = [.int i] ∧ Q (.int i) H) ∨ ∃ k, xs = [.bl k] ∧ Q (.int (if k then 1 else 0)) H) xs H Q ∨ (fun xs H Q => ∃ a n, xs = [.str a] ∧ PySem.intText? a = some n ∧ a.length ≤ 640 ∧ Q (.int n) H) xs H Q) gInt := by
  intro Z H vs ds Q Qd gd rx h k
  match ds, h, rx with
  | [.py (.int i)], h, rx =>
    obtain ⟨x, rfl, r⟩ := rx.one
    exact .inl (.inl ⟨i, by rw [r.int], k _ H (.py (.int i)) Ex.refl gd.g (.int i) h⟩)
  | [.py (.bool i)], h, rx =>
    obtain ⟨x, rfl, r⟩ := rx.one
    exact .inl (.inr ⟨i, by rw [r.bool], k _ H (.py (.int _)) Ex.refl gd.g (.int _) h⟩)
  | [.py (.str z)], ⟨n, h1, h2, h⟩, rx =>
    obtain ⟨x, rfl, r⟩ := rx.one
    exact .inr ⟨z, n, by rw [r.str], h1, h2, k _ H (.py (.int n)) Ex.refl gd.g (.int n) h⟩
@[simp] def gStr : List D → (D → Prop) → Prop
  | [.py (.int i)], Q => i.natAbs.log2 < 1920 ∧ Q (.py (.str (toString i)))
  | [.py (.str z)], Q => Q (.py (.str z))
  | _, _ => False
@[simp] def gBool : List D → (D → Prop) → Prop
  | [.py (.int i)], Q => Q (.py (.bool (i != 0)))
  | [.py (.bool k)], Q => Q (.py (.bool k))
  | _, _ => False
@[simp] def gTuple : List D → (D → Prop) → Prop
  | [.py (.list xs)], Q => Q (.py (.tuple xs))
  | [.py (.tuple xs)], Q => Q (.py (.tuple xs))
  | _, _ => False
theorem rd_tuple {K : PySem.W.Frag} : CalD b (RE b) (rTupOf K) gTuple := by
  intro Z H vs ds Q Qd gd rx h k
  match ds, h, rx with
  | [.py (.list xs)], h, rx =>
    obtain ⟨x, rfl, r⟩ := rx.one
    obtain ⟨a, us, rfl, ha, qa⟩ := r.list
    exact ⟨a, us, rfl, .inl ⟨SqL.of ha, fun p o hp ho => k _ _ (.py (.tuple xs)) (Ex.new hp) (gd.new hp) (.tup upd_same ho (gd.fresh hp) (qa.up hp)) h⟩⟩
  | [.py (.tuple xs)], h, rx =>
    obtain ⟨x, rfl, r⟩ := rx.one
    obtain ⟨a, oa, us, rfl, ha, da, na, qa⟩ := r.tuple
    exact ⟨a, us, rfl, .inr ⟨SqT.th ha, k _ H (.py (.tuple xs)) Ex.refl gd.g (.tup ha da na qa) h⟩⟩
@[simp] def gList : List D → (D → Prop) → Prop
  | [.py (.list xs)], Q => Q (.py (.list xs))
  | [.py (.tuple xs)], Q => Q (.py (.list xs))
  | _, _ => False
def allB : List PyData → Option (List Bool)
  | [] => some []
  | .bool k :: r => (allB r).map (k :: ·)
  | _ :: _ => none
def allI : List PyData → Option (List Int)
  | [] => some []
  | .int k :: r => (allI r).map (k :: ·)
  | _ :: _ => none
def allS : List PyData → Option (List Str)
  | [] => some []
  | .str k :: r => (allS r).map (k :: ·)
  | _ :: _ => none
theorem allI_map (l : List Int) : allI (l.map PyData.int) = some l := by
  induction l with
  | nil => rfl
  | cons a l ih => simp [allI, ih]
theorem allB_of : ∀ {l : List PyData} {bs : List Bool}, allB l = some bs → l = bs.map PyData.bool
  | [], _, h => by cases h; rfl
  | .bool k :: r, bs, h => by
    cases e : allB r with
    | none => rw [allB, e] at h; cases h
    | some q => rw [allB, e] at h; cases h; rw [List.map_cons, ← allB_of e]
  | .none :: _, _, h | .int _ :: _, _, h | .str _ :: _, _, h | .list _ :: _, _, h | .tuple _ :: _, _, h | .dict _ :: _, _, h => by cases h
theorem allI_of : ∀ {l : List PyData} {bs : List Int}, allI l = some bs → l = bs.map PyData.int
  | [], _, h => by cases h; rfl
  | .int k :: r, bs, h => by
    cases e : allI r with
    | none => rw [allI, e] at h; cases h
    | some q => rw [allI, e] at h; cases h; rw [List.map_cons, ← allI_of e]
  | .none :: _, _, h | .bool _ :: _, _, h | .str _ :: _, _, h | .list _ :: _, _, h | .tuple _ :: _, _, h | .dict _ :: _, _, h => by cases h
theorem allS_of : ∀ {l : List PyData} {bs : List Str}, allS l = some bs → l = bs.map PyData.str
  | [], _, h => by cases h; rfl
  | .str k :: r, bs, h => by
    cases e : allS r with
    | none => rw [allS, e] at h; cases h
    | some q => rw [allS, e] at h; cases h; rw [List.map_cons, ← allS_of e]
  | .none :: _, _, h | .bool _ :: _, _, h | .int _ :: _, _, h | .list _ :: _, _, h | .tuple _ :: _, _, h | .dict _ :: _, _, h => by cases h
@[simp] def gSum : List D → (D → Prop) → Prop
  | [.py (.list xs)], Q => ∃ ns, allI xs = some ns ∧ Q (.py (.int ns.sum))
  | _, _ => False
theorem rd_sum {K : PySem.W.Frag} : CalD b (RE b) (rSum K) gSum := by
  intro Z H vs ds Q Qd gd rx h k
  match ds, h, rx with
  | [.py (.list xs)], ⟨ns, e, h⟩, rx =>
    obtain ⟨x, rfl, r⟩ := rx.one
    obtain ⟨a, us, rfl, ha, qa⟩ := r.list
    rw [allI_of e] at qa
    rw [qa.ints] at ha
    exact ⟨a, ns, rfl, SqL.of ha, k _ H (.py (.int _)) Ex.refl gd.g (.int _) h⟩
@[simp] def gAll : List D → (D → Prop) → Prop
  | [.py (.list xs)], Q => ∃ ns, allB xs = some ns ∧ Q (.py (.bool (ns.all fun k => k)))
  | _, _ => False
@[simp] def gAny : List D → (D → Prop) → Prop
  | [.py (.list xs)], Q => ∃ ns, allB xs = some ns ∧ Q (.py (.bool (ns.any fun k => k)))
  | _, _ => False
theorem rd_all {K : PySem.W.Frag} : CalD b (RE b) (rAll K) gAll := by
  intro Z H vs ds Q Qd gd rx h k
  match ds, h, rx with
  | [.py (.list xs)], ⟨ns, e, h⟩, rx =>
    obtain ⟨x, rfl, r⟩ := rx.one
    obtain ⟨a, us, rfl, ha, qa⟩ := r.list
    rw [allB_of e] at qa
    rw [qa.bools] at ha
    exact ⟨a, ns, rfl, SqL.of ha, k _ H (.py (.bool _)) Ex.refl gd.g (.bl _) h⟩
theorem rd_any {K : PySem.W.Frag} : CalD b (RE b) (rAny K) gAny := by
  intro Z H vs ds Q Qd gd rx h k
  match ds, h, rx with
  | [.py (.list xs)], ⟨ns, e, h⟩, rx =>
    obtain ⟨x, rfl, r⟩ := rx.one
    obtain ⟨a, us, rfl, ha, qa⟩ := r.list
    rw [allB_of e] at qa
    rw [qa.bools] at ha
    exact ⟨a, ns, rfl, SqL.of ha, k _ H (.py (.bool _)) Ex.refl gd.g (.bl _) h⟩
/-- the greatest, the least -/
def maxL : List Int → Int
  | [] => 0
  | [a] => a
  | a :: r => max a (maxL r)
def minL : List Int → Int
  | [] => 0
  | [a] => a
  | a :: r => min a (minL r)
theorem maxL_spec : ∀ (l : List Int), l ≠ [] → maxL l ∈ l ∧ ∀ y, y ∈ l → y ≤ maxL l
  | [], h => absurd rfl h
  | [a], _ => by simp [maxL]
  | a :: c :: r, _ => by
    obtain ⟨h1, h2⟩ := maxL_spec (c :: r) (by simp)
    show max a (maxL (c :: r)) ∈ _ ∧ ∀ y, y ∈ _ → y ≤ max a (maxL (c :: r))
    refine ⟨?_, fun y hy => ?_⟩
    · rcases Int.le_total a (maxL (c :: r)) with h | h
      · rw [Int.max_eq_right h]; exact List.mem_cons_of_mem _ h1
      · rw [Int.max_eq_left h]; exact List.mem_cons_self
    · rcases List.mem_cons.mp hy with rfl | hy
      · exact Int.le_max_left _ _
      · exact Int.le_trans (h2 y hy) (Int.le_max_right _ _)
theorem minL_spec : ∀ (l : List Int), l ≠ [] → minL l ∈ l ∧ ∀ y, y ∈ l → minL l ≤ y
  | [], h => absurd rfl h
  | [a], _ => by simp [minL]
  | a :: c :: r, _ => by
    obtain ⟨h1, h2⟩ := minL_spec (c :: r) (by simp)
    show min a (minL (c :: r)) ∈ _ ∧ ∀ y, y ∈ _ → min a (minL (c :: r)) ≤ y
    refine ⟨?_, fun y hy => ?_⟩
    · rcases Int.le_total a (minL (c :: r)) with h | h
      · rw [Int.min_eq_left h]; exact List.mem_cons_self
      · rw [Int.min_eq_right h]; exact List.mem_cons_of_mem _ h1
    · rcases List.mem_cons.mp hy with rfl | hy
      · exact Int.min_le_left _ _
      · exact Int.le_trans (Int.min_le_right _ _) (h2 y hy)
@[simp] def gMax : List D → (D → Prop) → Prop
  | [.py (.list xs)], Q => ∃ ns, allI xs = some ns ∧ ns ≠ [] ∧ Q (.py (.int (maxL ns)))
  | [.py (.int i), .py (.int j)], Q => Q (.py (.int (max i j)))
  | _, _ => False
@[simp] def gMin : List D → (D → Prop) → Prop
  | [.py (.list xs)], Q => ∃ ns, allI xs = some ns ∧ ns ≠ [] ∧ Q (.py (.int (minL ns)))
  | [.py (.int i), .py (.int j)], Q => Q (.py (.int (min i j)))
  | _, _ => False
theorem rd_max {K : PySem.W.Frag} : CalD b (RE b) (fun xs H Q => (fun xs H Q => ∃ i j, xs = [.int i, .int j] ∧ Q (.int (if j > i then j else i)) H) xs H Q ∨ rMax K xs H Q) gMax := by
  intro Z H vs ds Q Qd gd rx h k
  match ds, h, rx with
  | [.py (.list xs)], ⟨ns, e, hne, h⟩, rx =>
    obtain ⟨x, rfl, r⟩ := rx.one
    obtain ⟨a, us, rfl, ha, qa⟩ := r.list
    rw [allI_of e] at qa
    rw [qa.ints] at ha
    refine .inr ⟨a, ns, rfl, SqL.of ha, List.length_pos_iff.mpr hne, fun m hm hl => ?_⟩
    obtain ⟨h1, h2⟩ := maxL_spec ns hne
    have e : m = maxL ns := Int.le_antisymm (h2 m hm) (hl _ h1)
    rw [e]
    exact k _ H (.py (.int _)) Ex.refl gd.g (.int _) h
  | [.py (.int i), .py (.int j)], h, rx =>
    obtain ⟨x, y, rfl, r1, r2⟩ := rx.two
    refine .inl ⟨i, j, by rw [r1.int, r2.int], ?_⟩
    have e : (if j > i then j else i) = max i j := by split <;> omega
    rw [e]
    exact k _ H (.py (.int _)) Ex.refl gd.g (.int _) h
theorem rd_min {K : PySem.W.Frag} : CalD b (RE b) (fun xs H Q => (fun xs H Q => ∃ i j, xs = [.int i, .int j] ∧ Q (.int (if j < i then j else i)) H) xs H Q ∨ rMin K xs H Q) gMin := by
  intro Z H vs ds Q Qd gd rx h k
  match ds, h, rx with
  | [.py (.list xs)], ⟨ns, e, hne, h⟩, rx =>
    obtain ⟨x, rfl, r⟩ := rx.one
    obtain ⟨a, us, rfl, ha, qa⟩ := r.list
    rw [allI_of e] at qa
    rw [qa.ints] at ha
    refine .inr ⟨a, ns, rfl, SqL.of ha, List.length_pos_iff.mpr hne, fun m hm hl => ?_⟩
    obtain ⟨h1, h2⟩ := minL_spec ns hne
    have e : m = minL ns := Int.le_antisymm (hl _ h1) (h2 m hm)
    rw [e]
    exact k _ H (.py (.int _)) Ex.refl gd.g (.int _) h
  | [.py (.int i), .py (.int j)], h, rx =>
    obtain ⟨x, y, rfl, r1, r2⟩ := rx.two
    refine .inl ⟨i, j, by rw [r1.int, r2.int], ?_⟩
    have e : (if j < i then j else i) = min i j := by split <;> omega
    rw [e]
    exact k _ H (.py (.int _)) Ex.refl gd.g (.int _) h
/-! ### isinstance of built-in kinds -/
/-- is data of that built-in class? -/
@[simp] def dInt : PyData → Bool
  | .int _ => true | .bool _ => true | _ => false
@[simp] def dBool : PyData → Bool
  | .bool _ => true | _ => false
@[simp] def dStr : PyData → Bool
  | .str _ => true | _ => false
@[simp] def dTuple : PyData → Bool
  | .tuple _ => true | _ => false
@[simp] def dList : PyData → Bool
  | .list _ => true | _ => false
def isK (T : String) (d : PyData) : Option Bool := if T = "int" then some (dInt d) else if T = "bool" then some (dBool d) else if T = "str" then some (dStr d) else if T = "tuple" then some (dTuple d) else if T = "list" then some (dList d) else none
@[simp] theorem isK_int (d : PyData) : isK "int" d = some (dInt d) := rfl
@[simp] theorem isK_bool (d : PyData) : isK "bool" d = some (dBool d) := rfl
@[simp] theorem isK_str (d : PyData) : isK "str" d = some (dStr d) := rfl
@[simp] theorem isK_tuple (d : PyData) : isK "tuple" d = some (dTuple d) := rfl
@[simp] theorem isK_list (d : PyData) : isK "list" d = some (dList d) := rfl
def tyName : PyData → String
  | .none => "NoneType" | .bool _ => "bool" | .int _ => "int" | .str _ => "str" | .list _ => "list" | .tuple _ => "tuple" | .dict _ => "dict"
theorem isi_int (d : PyData) : kitB (tyName d) "int" = some (dInt d) := by cases d <;> (simp only [tyName, dInt]; decide +kernel)
theorem isi_bool (d : PyData) : kitB (tyName d) "bool" = some (dBool d) := by cases d <;> (simp only [tyName, dBool]; decide +kernel)
theorem isi_str (d : PyData) : kitB (tyName d) "str" = some (dStr d) := by cases d <;> (simp only [tyName, dStr]; decide +kernel)
theorem isi_tuple (d : PyData) : kitB (tyName d) "tuple" = some (dTuple d) := by cases d <;> (simp only [tyName, dTuple]; decide +kernel)
theorem isi_list (d : PyData) : kitB (tyName d) "list" = some (dList d) := by cases d <;> (simp only [tyName, dList]; decide +kernel)
theorem isi_of {T : String} {d : PyData} {c : Bool} (h : isK T d = some c) : kitB (tyName d) T = some c := by
  unfold isK at h
  split at h
  · subst T; rw [isi_int]; exact h
  split at h
  · subst T; rw [isi_bool]; exact h
  split at h
  · subst T; rw [isi_str]; exact h
  split at h
  · subst T; rw [isi_tuple]; exact h
  split at h
  · subst T; rw [isi_list]; exact h
  · cases h
theorem tyx_of {K : PySem.W.Frag} {Z : Addr → Prop} {H : Hp} {v : V} {d : PyData} (r : Rq Z H v d) : TyX K H v (.type (tyName d)) := by
  cases r with
  | non => exact .base .non
  | bl k => exact .base (.bl k)
  | int i => exact .base (.int i)
  | str x => exact .base (.str x)
  | lst e n q => exact .base (.lst e)
  | tup e h n q => exact .fTuple e
  | dct e n q => exact .base (.dK e)
@[simp] def gIsi : List D → (D → Prop) → Prop
  | [.py d, .raw (.ty T)], Q => ∃ k, isK T d = some k ∧ Q (.py (.bool k))
  | _, _ => False
theorem rd_isi {K : PySem.W.Frag} : CalD b (RE b) (rIsi K) gIsi := by
  intro Z H vs ds Q Qd gd rx h k
  match ds, h, rx with
  | [.py d, .raw (.ty T)], ⟨c, e, h⟩, rx =>
    obtain ⟨x, y, rfl, r1, r2⟩ := rx.two
    have ey : y = .ty T := by
      rcases r2 with r | ⟨a, e, _, _, q⟩
      · exact r
      · exact q.elim
    subst ey
    exact ⟨x, .ty T, _, .type T, c, rfl, .ty T, tyx_of r1.q, kit_ty (isi_of e), k _ H (.py (.bool c)) Ex.refl gd.g (.bl c) h⟩
/-- the built-in class as a value -/
theorem ve_ty {T : String} {x : Str} (hg : Gl X x) (hm : X.mg x = none) (hv : bootBuiltins x = some (.type T)) (hn : x ≠ "__name__" := by decide) (hd : (x == ("__debug__" : Str)) = false := by decide) : VE X b W (.Name x pos) (vC (.raw (.ty T))) :=
  ve_raw (pe_bltn hg hm hv rfl hn hd)
end
end VL
set_option Elab.async false
set_option linter.all false
set_option maxRecDepth 100000
set_option maxHeartbeats 4000000
namespace VL
open PySem PySem.Spec PyProof.Rows L2
/-- VOk in a running def: H0 the heap at its entry (or a loop's), M what may have been written since -/
structure FOk (b : Bg) (H0 : Hp) (M Zo Z : Addr → Prop) (σ : L2.St) (H : Hp) (ρ : VEnv) : Prop where
  v : VOk b Zo Z σ H ρ
  ext : ∀ a o, H0 a = some o → ¬ b.B a → ¬ M a → H a = some o
  fr : ∀ (i : Nat) (d : D) (a : Addr), ρ[i]? = some (.own d) → σ[i]? = some (some (.ref a)) → M a ∨ H0 a = none
structure VEnds where
  nx : VEnv → Prop
  rt : D → Prop
  bk : VEnv → Prop
  ct : VEnv → Prop
  ex : VEnv → Er → Prop
abbrev VS := VEnv → VEnds → Prop
/-- what the ends of a reading mean over the heap -/
structure Lk (b : Bg) (W : WX) (H0 : Hp) (M Zo : Addr → Prop) (De : VEnds) (D : Ends) : Prop where
  nx : ∀ Z σ H ρ, FOk b H0 M Zo Z σ H ρ → De.nx ρ → D.nx σ H
  rt : ∀ v H d, (∀ a o, H0 a = some o → ¬ b.B a → ¬ M a → H a = some o) → b.G H → Rp b Zo H v d → De.rt d → D.rt v H
  bk : ∀ Z σ H ρ, FOk b H0 M Zo Z σ H ρ → De.bk ρ → D.bk σ H
  ct : ∀ Z σ H ρ, FOk b H0 M Zo Z σ H ρ → De.ct ρ → D.ct σ H
  ex : ∀ c x Z σ H ρ er, FOk b H0 M Zo Z σ H ρ → ErRp b Z H c x er → De.ex ρ er → W c x σ H
def LS (b : Bg) (W : WX) (t : VS) : TS := fun D σ H => ∃ H0 M Zo Z ρ De, FOk b H0 M Zo Z σ H ρ ∧ t ρ De ∧ Lk b W H0 M Zo De D
def VSt (X : Cx) (b : Bg) (W : WX) (st : Stmt) (t : VS) : Prop := PS X st (LS b W t)
def VSs (X : Cx) (b : Bg) (W : WX) (st : List Stmt) (t : VS) : Prop := PSs X st (LS b W t)
section
variable {b : Bg} {W : WX} {H0 : Hp} {M Zo Z : Addr → Prop} {σ : L2.St} {H H' : Hp} {ρ : VEnv} {De : VEnds} {Dn : Ends}
theorem FOk.ex (f : FOk b H0 M Zo Z σ H ρ) (x : Ex b H H') (g : b.G H') : FOk b H0 M Zo Z σ H' ρ := ⟨f.v.ex x g, fun a o e nb nm => x a o (f.ext a o e nb nm) nb, f.fr⟩
/-- the error link of an expression -/
theorem Lk.er (l : Lk b W H0 M Zo De Dn) (f : FOk b H0 M Zo Z σ H ρ) : ∀ c x H' er, Ex b H H' → b.G H' → ErRp b Z H' c x er → De.ex ρ er → W c x σ H' := fun c x H' er x1 g1 r q => l.ex c x Z σ H' ρ er (f.ex x1 g1) r q
/-- the owned addresses but slot i's -/
def zBut (Zo : Addr → Prop) (σ : L2.St) (ρ : VEnv) (i : Nat) : Addr → Prop := fun a => Zo a ∨ ∃ (j : Nat) (e : D), j ≠ i ∧ ρ[j]? = some (.own e) ∧ σ[j]? = some (some (.ref a))
theorem VOk.but (v : VOk b Zo Z σ H ρ) (i : Nat) : ∀ a, zBut Zo σ ρ i a → Z a := fun a z => by
  rcases z with z | ⟨j, e, _, h1, h2⟩
  · exact v.zo a z
  · obtain ⟨c, h3, h4, _⟩ := v.own j e h1
    rw [h2] at h3; cases h3; exact h4
theorem FOk.set (f : FOk b H0 M Zo Z σ H ρ) {i : Nat} {u : V} {d : D} (hi : i < ρ.length) (r : Rp b Z H u d) : FOk b H0 M Zo (zBut Zo σ ρ i) (σ.set i (some u)) H (ρ.set i (.shr d)) := by
  have v := f.v
  have sub := v.but i
  have hiσ : i < σ.length := by rw [← v.len]; exact hi
  have ow : ∀ {j : Nat} {e : D}, (ρ.set i (.shr d))[j]? = some (.own e) → j ≠ i ∧ ρ[j]? = some (.own e) := fun {j e} h => by
    by_cases hj : j = i
    · subst hj
      rw [List.getElem?_set_self hi] at h; cases h
    · rw [List.getElem?_set_ne (Ne.symm hj)] at h
      exact ⟨hj, h⟩
  refine ⟨⟨v.g, v.zb, fun a z => .inl z, fun a z => v.dom a (sub a z), fun a z => ?_, fun j e h => ?_, fun j k e e2 a h1 h2 h3 h4 => ?_, fun j e h => ?_, by simpa using v.len⟩, f.ext, fun j e a h1 h2 => ?_⟩
  · rcases z with z | ⟨j, e, hj, h1, h2⟩
    · exact .inl z
    · exact .inr ⟨j, e, by rw [List.getElem?_set_ne (Ne.symm hj)]; exact h1, by rw [List.getElem?_set_ne (Ne.symm hj)]; exact h2⟩
  · obtain ⟨hj, h⟩ := ow h
    obtain ⟨a, h1, h2, h3, h4⟩ := v.own j e h
    exact ⟨a, by rw [List.getElem?_set_ne (Ne.symm hj)]; exact h1, .inr ⟨j, e, hj, h, h1⟩, h3, h4.mono (fun c z => .inl (sub c z)) (fun _ _ e _ => e) fun _ e => e⟩
  · obtain ⟨hj, h1⟩ := ow h1
    obtain ⟨hk, h2⟩ := ow h2
    rw [List.getElem?_set_ne (Ne.symm hj)] at h3
    rw [List.getElem?_set_ne (Ne.symm hk)] at h4
    exact v.inj j k e e2 a h1 h2 h3 h4
  · by_cases hj : j = i
    · subst hj
      rw [List.getElem?_set_self hi] at h; cases h
      exact ⟨u, List.getElem?_set_self hiσ, r.mono (fun c z => .inl (sub c z)) fun _ _ e _ => e⟩
    · rw [List.getElem?_set_ne (Ne.symm hj)] at h
      obtain ⟨w, h1, h2⟩ := v.shr j e h
      exact ⟨w, by rw [List.getElem?_set_ne (Ne.symm hj)]; exact h1, h2.mono (fun c z => .inl (sub c z)) fun _ _ e _ => e⟩
  · obtain ⟨hj, h1⟩ := ow h1
    rw [List.getElem?_set_ne (Ne.symm hj)] at h2
    exact f.fr j e a h1 h2
/-- a new object given to slot i -/
theorem FOk.setN (f : FOk b H0 M Zo Z σ H ρ) {i : Nat} {u : V} {d : D} (hi : i < ρ.length) (x : Ex b H H') (g : b.G H') (r : Rn b Z H H' u d) : ∃ Z', FOk b H0 M Zo Z' (σ.set i (some u)) H' (ρ.set i (.own d)) := by
  obtain ⟨a, rfl, hn, o⟩ := r
  have v := f.v
  have v' := v.ex x g
  have sub := v.but i
  have nz : ¬ Z a := v.fresh hn
  have hiσ : i < σ.length := by rw [← v.len]; exact hi
  have hz : ∀ c, (zBut Zo σ ρ i c ∨ c = a) → Z c ∨ H c = none := fun c z => z.elim (fun z => .inl (sub c z)) fun e => .inr (by rw [e]; exact hn)
  have ow : ∀ {j : Nat} {e : D}, (ρ.set i (.own d))[j]? = some (.own e) → (j = i ∧ e = d) ∨ (j ≠ i ∧ ρ[j]? = some (.own e)) := fun {j e} h => by
    by_cases hj : j = i
    · subst hj
      rw [List.getElem?_set_self hi] at h; cases h; exact .inl ⟨rfl, rfl⟩
    · rw [List.getElem?_set_ne (Ne.symm hj)] at h
      exact .inr ⟨hj, h⟩
  have na : ∀ (j : Nat) (e : D) (c : Addr), ρ[j]? = some (.own e) → σ[j]? = some (some (.ref c)) → c ≠ a := fun j e c h1 h2 q => by
    obtain ⟨c', h3, h4, _⟩ := v.own j e h1
    rw [h2] at h3; cases h3; rw [q] at h4; exact nz h4
  refine ⟨fun c => zBut Zo σ ρ i c ∨ c = a, ⟨g, v.zb, fun c z => .inl (.inl z), fun c z => ?_, fun c z => ?_, fun j e h => ?_, fun j k e e2 c h1 h2 h3 h4 => ?_, fun j e h => ?_, by simpa using v.len⟩, fun c o e nb nm => x c o (f.ext c o e nb nm) nb, fun j e c h1 h2 => ?_⟩
  · rcases z with z | rfl
    · exact v'.dom c (sub c z)
    · obtain ⟨o', e⟩ := o.at
      rw [e]; simp
  · rcases z with (z | ⟨j, e, hj, h1, h2⟩) | rfl
    · exact .inl z
    · exact .inr ⟨j, e, by rw [List.getElem?_set_ne (Ne.symm hj)]; exact h1, by rw [List.getElem?_set_ne (Ne.symm hj)]; exact h2⟩
    · exact .inr ⟨i, d, List.getElem?_set_self hi, List.getElem?_set_self hiσ⟩
  · rcases ow h with ⟨rfl, rfl⟩ | ⟨hj, h⟩
    · exact ⟨a, List.getElem?_set_self hiσ, .inr rfl, fun z => nz (v.zo _ z), o.mono (fun c z => .inl (z.imp (sub c) id)) (fun _ _ e _ => e) fun _ e => e⟩
    · obtain ⟨c, h1, h2, h3, h4⟩ := v.own j e h
      exact ⟨c, by rw [List.getElem?_set_ne (Ne.symm hj)]; exact h1, .inl (.inr ⟨j, e, hj, h, h1⟩), h3, h4.mono hz (v.keep x) fun o q => x c o q fun z => h3 (v.zb c z)⟩
  · rcases ow h1 with ⟨q1, _⟩ | ⟨hj, p1⟩
    · rcases ow h2 with ⟨q2, _⟩ | ⟨hk, p2⟩
      · rw [q1, q2]
      · rw [q1, List.getElem?_set_self hiσ] at h3; cases h3
        rw [List.getElem?_set_ne (Ne.symm hk)] at h4
        exact absurd rfl (na k e2 _ p2 h4)
    · rw [List.getElem?_set_ne (Ne.symm hj)] at h3
      rcases ow h2 with ⟨q2, _⟩ | ⟨hk, p2⟩
      · rw [q2, List.getElem?_set_self hiσ] at h4; cases h4
        exact absurd rfl (na j e _ p1 h3)
      · rw [List.getElem?_set_ne (Ne.symm hk)] at h4
        exact v.inj j k e e2 c p1 p2 h3 h4
  · by_cases hj : j = i
    · subst hj
      rw [List.getElem?_set_self hi] at h; cases h
    · rw [List.getElem?_set_ne (Ne.symm hj)] at h
      obtain ⟨w, h1, h2⟩ := v.shr j e h
      exact ⟨w, by rw [List.getElem?_set_ne (Ne.symm hj)]; exact h1, h2.mono hz (v.keep x)⟩
  · rcases ow h1 with ⟨rfl, rfl⟩ | ⟨hj, h1⟩
    · rw [List.getElem?_set_self hiσ] at h2; cases h2
      cases q : H0 a with
      | none => exact .inr rfl
      | some u0 =>
        by_cases hb : b.B a
        · exact absurd hn (b.dom _ _ v.g hb)
        · by_cases hm : M a
          · exact .inl hm
          · have := f.ext a u0 q hb hm
            rw [hn] at this; cases this
    · rw [List.getElem?_set_ne (Ne.symm hj)] at h2
      exact f.fr j e c h1 h2
/-- slot i's object is changed -/
theorem FOk.mut (f : FOk b H0 M Zo Z σ H ρ) {i : Nat} {a : Addr} {d d' : D} {o : HO} (hr : ρ[i]? = some (.own d)) (hs : σ[i]? = some (some (.ref a))) (new : Ow b Z (upd H a o) a d') : FOk b H0 M Zo Z σ (upd H a o) (ρ.set i (.own d')) := by
  have v := f.v
  obtain ⟨c, h1, hz, hzo, how⟩ := v.own i d hr
  rw [hs] at h1; cases h1
  have hi : i < ρ.length := (List.getElem?_eq_some_iff.mp hr).1
  have nb : ¬ b.B a := fun z => hzo (v.zb a z)
  have keep : ∀ c o', H c = some o' → ¬ Z c → upd H a o c = some o' := fun c o' e n => by
    rw [upd_ne (fun q => n (by rw [q]; exact hz))]
    exact e
  have ow : ∀ {j : Nat} {e : D}, (ρ.set i (.own d'))[j]? = some (.own e) → (j = i ∧ e = d') ∨ (j ≠ i ∧ ρ[j]? = some (.own e)) := fun {j e} h => by
    by_cases hj : j = i
    · subst hj
      rw [List.getElem?_set_self hi] at h; cases h; exact .inl ⟨rfl, rfl⟩
    · rw [List.getElem?_set_ne (Ne.symm hj)] at h
      exact .inr ⟨hj, h⟩
  have old : ∀ {j : Nat} {e : D}, (ρ.set i (.own d'))[j]? = some (.own e) → ∃ e', ρ[j]? = some (.own e') := fun {j e} h => by
    rcases ow h with ⟨rfl, rfl⟩ | ⟨_, h⟩
    · exact ⟨d, hr⟩
    · exact ⟨e, h⟩
  refine ⟨⟨b.loc H _ (fun c hc => upd_ne fun q => nb (by rw [← q]; exact hc)) (fun c o ho e => by rw [upd_ne (fun q => how.noext o ho (by rw [← q]; exact e))]; exact e) v.g, v.zb, v.zo, fun c z => ?_, fun c z => ?_, fun j e h => ?_, fun j k e e2 c h1 h2 h3 h4 => ?_, fun j e h => ?_, by simpa using v.len⟩, fun c o' e nb' nm => ?_, fun j e c h1 h2 => ?_⟩
  · by_cases q : c = a
    · rw [q, upd_same]; simp
    · rw [upd_ne q]; exact v.dom c z
  · rcases v.zi c z with z | ⟨j, e, h1, h2⟩
    · exact .inl z
    · by_cases hj : j = i
      · subst hj
        exact .inr ⟨j, d', List.getElem?_set_self hi, h2⟩
      · exact .inr ⟨j, e, by rw [List.getElem?_set_ne (Ne.symm hj)]; exact h1, h2⟩
  · rcases ow h with ⟨rfl, rfl⟩ | ⟨hj, h⟩
    · exact ⟨a, hs, hz, hzo, new⟩
    · obtain ⟨c, h1, h2, h3, h4⟩ := v.own j e h
      have hca : c ≠ a := fun q => hj (v.inj j i e d a h hr (by rw [← q]; exact h1) hs)
      exact ⟨c, h1, h2, h3, h4.mono (fun _ z => .inl z) keep fun o' q => by rw [upd_ne hca]; exact q⟩
  · obtain ⟨e', h1⟩ := old h1
    obtain ⟨e2', h2⟩ := old h2
    exact v.inj j k e' e2' c h1 h2 h3 h4
  · by_cases hj : j = i
    · subst hj
      rw [List.getElem?_set_self hi] at h; cases h
    · rw [List.getElem?_set_ne (Ne.symm hj)] at h
      obtain ⟨w, h1, h2⟩ := v.shr j e h
      exact ⟨w, h1, h2.mono (fun _ z => .inl z) keep⟩
  · have h := f.ext c o' e nb' nm
    by_cases q : c = a
    · subst q
      rcases f.fr i d c hr hs with z | z
      · exact absurd z nm
      · rw [z] at e; cases e
    · rw [upd_ne q]; exact h
  · obtain ⟨e', h1⟩ := old h1
    exact f.fr j e' c h1 h2
/-- slot i's object is shared from now on -/
@[simp] def frz (i : Nat) (ρ : VEnv) : VEnv := match ρ[i]? with
  | some (.own d) => ρ.set i (.shr d)
  | _ => ρ
theorem FOk.frz (f : FOk b H0 M Zo Z σ H ρ) (i : Nat) : ∃ Z', FOk b H0 M Zo Z' σ H (VL.frz i ρ) := by
  unfold VL.frz
  cases hr : ρ[i]? with
  | none => exact ⟨Z, f⟩
  | some s =>
    cases s with
    | un => exact ⟨Z, f⟩
    | shr d => exact ⟨Z, f⟩
    | own d =>
      have v := f.v
      obtain ⟨a, hs, hz, hzo, ho⟩ := v.own i d hr
      have hi : i < ρ.length := (List.getElem?_eq_some_iff.mp hr).1
      have sub := v.but i
      have na : ¬ zBut Zo σ ρ i a := fun z => by
        rcases z with z | ⟨j, e, hj, h1, h2⟩
        · exact hzo z
        · exact hj (v.inj j i e d a h1 hr h2 hs)
      have rp : Rp b (zBut Zo σ ρ i) H (.ref a) d := ho.rp sub na
      have eσ : σ.set i (some (.ref a)) = σ := by
        apply List.ext_getElem?
        intro j
        by_cases hj : j = i
        · subst hj
          rw [List.getElem?_set_self (List.getElem?_eq_some_iff.mp hs).1, hs]
        · rw [List.getElem?_set_ne (Ne.symm hj)]
      refine ⟨zBut Zo σ ρ i, ?_⟩
      -- as FOk.set, but the value is no longer owned
      have ow : ∀ {j : Nat} {e : D}, (ρ.set i (.shr d))[j]? = some (.own e) → j ≠ i ∧ ρ[j]? = some (.own e) := fun {j e} h => by
        by_cases hj : j = i
        · subst hj
          rw [List.getElem?_set_self hi] at h; cases h
        · rw [List.getElem?_set_ne (Ne.symm hj)] at h
          exact ⟨hj, h⟩
      refine ⟨⟨v.g, v.zb, fun a z => .inl z, fun a z => v.dom a (sub a z), fun c z => ?_, fun j e h => ?_, fun j k e e2 c h1 h2 h3 h4 => ?_, fun j e h => ?_, by simpa using v.len⟩, f.ext, fun j e c h1 h2 => f.fr j e c (ow h1).2 h2⟩
      · rcases z with z | ⟨j, e, hj, h1, h2⟩
        · exact .inl z
        · exact .inr ⟨j, e, by rw [List.getElem?_set_ne (Ne.symm hj)]; exact h1, h2⟩
      · obtain ⟨hj, h⟩ := ow h
        obtain ⟨c, h1, h2, h3, h4⟩ := v.own j e h
        exact ⟨c, h1, .inr ⟨j, e, hj, h, h1⟩, h3, h4.mono (fun c z => .inl (sub c z)) (fun _ _ e _ => e) fun _ e => e⟩
      · exact v.inj j k e e2 c (ow h1).2 (ow h2).2 h3 h4
      · by_cases hj : j = i
        · subst hj
          rw [List.getElem?_set_self hi] at h; cases h
          exact ⟨.ref a, hs, rp⟩
        · rw [List.getElem?_set_ne (Ne.symm hj)] at h
          obtain ⟨w, h1, h2⟩ := v.shr j e h
          exact ⟨w, h1, h2.mono (fun c z => .inl (sub c z)) fun _ _ e _ => e⟩
/-- a value that may leave -/
theorem FOk.out (f : FOk b H0 M Zo Z σ H ρ) {u : V} {d : D} (r : Rp b Z H u d) : Rp b Zo H u d := r.mono (fun c z => .inl (f.v.zo c z)) fun _ _ e _ => e
end
/-! ### statements -/
section
variable {X : Cx} {b : Bg} {W : WX} {e e1 e2 : Expr} {st : Stmt} {sts : List Stmt} {t t1 t2 : VT} {u : VA} {g h : VS} {pos pos' : Pos} {i : Nat} {x : Str}
@[simp] def sNext : VS := fun ρ De => De.nx ρ
@[simp] def sSeq (g h : VS) : VS := fun ρ De => g ρ { De with nx := fun ρ' => h ρ' De }
theorem vs_nil : VSs X b W [] sNext := pss_mono pss_nil fun D σ H ⟨H0, M, Zo, Z, ρ, De, f, q, l⟩ => l.nx Z σ H ρ f q
theorem vs_cons (h1 : VSt X b W st g) (h2 : VSs X b W sts h) : VSs X b W (st :: sts) (sSeq g h) :=
  pss_mono (pss_cons h1 h2) fun D σ H ⟨H0, M, Zo, Z, ρ, De, f, q, l⟩ => ⟨H0, M, Zo, Z, ρ, _, f, q, ⟨fun Z' σ' H' ρ' f' q' => ⟨H0, M, Zo, Z', ρ', De, f', q', l⟩, l.rt, l.bk, l.ct, l.ex⟩⟩
theorem vs_one (h1 : VSt X b W st g) : VSs X b W [st] g := pss_mono (pss_one h1) fun _ _ _ q => q
/-- from here on slot i's object may be shared -/
@[simp] def sFrz (i : Nat) (g : VS) : VS := fun ρ De => g (frz i ρ) De
theorem vs_frz (i : Nat) (h : VSt X b W st g) : VSt X b W st (sFrz i g) := ps_mono h fun D σ H ⟨H0, M, Zo, Z, ρ, De, f, q, l⟩ => by
  obtain ⟨Z', f'⟩ := f.frz i
  exact ⟨H0, M, Zo, Z', _, De, f', q, l⟩
@[simp] def sBrk : VS := fun ρ De => De.bk ρ
@[simp] def sCnt : VS := fun ρ De => De.ct ρ
/-- name = value -/
@[simp] def sSet (i : Nat) (t : VT) : VS := fun ρ De => i < ρ.length ∧ t ρ (fun d => De.nx (ρ.set i (.shr d))) (De.ex ρ)
@[simp] def sSetN (i : Nat) (t : VT) : VS := fun ρ De => i < ρ.length ∧ t ρ (fun d => De.nx (ρ.set i (.own d))) (De.ex ρ)
theorem vs_set {te : TE} (hp : PS X (.Assign [.Name x pos'] e pos) (tAsg te (gName i))) (hm : ∀ σ H Q, LE b W (RE b) t σ H Q → te σ H Q) : VSt X b W (.Assign [.Name x pos'] e pos) (sSet i t) :=
  ps_mono hp fun D σ H ⟨H0, M, Zo, Z, ρ, De, f, ⟨hi, q⟩, l⟩ => hm σ H _ ⟨Zo, Z, ρ, _, _, f.v, q, fun v H' d x g r q' => l.nx _ _ H' _ ((f.ex x g).set hi r) q', l.er f⟩
theorem vs_setN {te : TE} (hp : PS X (.Assign [.Name x pos'] e pos) (tAsg te (gName i))) (hm : ∀ σ H Q, LE b W (RN b) t σ H Q → te σ H Q) : VSt X b W (.Assign [.Name x pos'] e pos) (sSetN i t) :=
  ps_mono hp fun D σ H ⟨H0, M, Zo, Z, ρ, De, f, ⟨hi, q⟩, l⟩ => hm σ H _ ⟨Zo, Z, ρ, _, _, f.v, q, fun v H' d x g r q' => by
    obtain ⟨Z', f'⟩ := f.setN hi x g r
    exact l.nx _ _ H' _ f' q', l.er f⟩
theorem vs_asg (hN : X.N.Nodup) (hi : X.N[i]? = some x) (hx : Loc X.env.scope x) (he : VE X b W e t) (hs : swapsWith e (some (.Name x pos')) pos.line X.env = pure false := by rfl)
    (hf : X.fn x = true ∨ X.env.scope.names.lookup x = some .local := by first | exact .inl rfl | exact .inr rfl | assumption) : VSt X b W (.Assign [.Name x pos'] e pos) (sSet i t) :=
  vs_set (ps_set hN hi hx he hs hf) fun _ _ _ q => q
theorem vs_asgN (hN : X.N.Nodup) (hi : X.N[i]? = some x) (hx : Loc X.env.scope x) (he : VN X b W e t) (hs : swapsWith e (some (.Name x pos')) pos.line X.env = pure false := by rfl)
    (hf : X.fn x = true ∨ X.env.scope.names.lookup x = some .local := by first | exact .inl rfl | exact .inr rfl | assumption) : VSt X b W (.Assign [.Name x pos'] e pos) (sSetN i t) :=
  vs_setN (ps_set hN hi hx he hs hf) fun _ _ _ q => q
@[simp] def sExpr (t : VT) : VS := fun ρ De => t ρ (fun _ => De.nx ρ) (De.ex ρ)
theorem vs_expr (he : VE X b W e t) (hs : swapsWith e none pos.line X.env = pure false := by rfl) : VSt X b W (.Expr e pos) (sExpr t) :=
  ps_mono (ps_expr he hs) fun D σ H ⟨H0, M, Zo, Z, ρ, De, f, q, l⟩ => ⟨Zo, Z, ρ, _, _, f.v, q, fun v H' d x g r q' => l.nx _ _ H' _ (f.ex x g) q', l.er f⟩
@[simp] def sRet (t : VT) : VS := fun ρ De => t ρ De.rt (De.ex ρ)
theorem vs_ret (he : VE X b W e t) : VSt X b W (.Return (some e) pos) (sRet t) :=
  ps_mono (ps_ret he) fun D σ H ⟨H0, M, Zo, Z, ρ, De, f, q, l⟩ => ⟨Zo, Z, ρ, _, _, f.v, q, fun v H' d x g r q' => l.rt v H' d (f.ex x g).ext g ((f.ex x g).out r) q', l.er f⟩
@[simp] def sRetN : VS := fun _ De => De.rt (.py .none)
@[simp] def sIf (c : VB) (g h : VS) : VS := fun ρ De => c ρ (fun k => if k = true then g ρ De else h ρ De) (De.ex ρ)
theorem vs_if {c : Expr} {tc : VB} {xs ys : List Stmt} (hc : VTe X b W c tc) (h1 : VSs X b W xs g) (h2 : VSs X b W ys h) : VSt X b W (.If c xs ys pos) (sIf tc g h) :=
  ps_mono (ps_if hc h1 h2) fun D σ H ⟨H0, M, Zo, Z, ρ, De, f, q, l⟩ => ⟨Zo, Z, ρ, _, _, f.v, q, fun k H' x g q' => by
    cases k with
    | true => exact ⟨H0, M, Zo, Z, ρ, De, f.ex x g, q', l⟩
    | false => exact ⟨H0, M, Zo, Z, ρ, De, f.ex x g, q', l⟩, l.er f⟩
/-- name op= value -/
@[simp] def sAug (i : Nat) (g : D → D → (D → Prop) → Prop) (t : VT) : VS := fun ρ De => ∃ d, ρ[i]? = some (.shr d) ∧ t ρ (fun y => g d y fun z => De.nx (ρ.set i (.shr z))) (De.ex ρ)
/-! ### loops -/
/-- what an iterator gives: the items, one a turn, while what stood at H outside of Y stands -/
structure Wk (b : Bg) (Y Z : Addr → Prop) (H : Hp) (J : It) (ds : List D) : Prop where
  go : ∀ (k : Nat) (d : D) (H2 : Hp), ds[k]? = some d → (∀ a o, H a = some o → ¬ Y a → H2 a = some o) → b.G H2 → J.go k H2 ∧ ∀ v H3, J.yld k H2 v H3 → Ex b H2 H3 ∧ b.G H3 ∧ ∀ Z2 : Addr → Prop, (∀ a, Z2 a → Z a ∨ H a = none) → (∀ a, Z2 a → H2 a ≠ none) → Rp b Z2 H3 v d
  stop : ∀ (k : Nat) (H2 : Hp), ds.length = k → (∀ a o, H a = some o → ¬ Y a → H2 a = some o) → J.stop k H2
abbrev VIt := VEnv → (List D → Prop) → (Er → Prop) → Prop
def LI (b : Bg) (W : WX) (Y : (Addr → Prop) → Addr → Prop) (t : VIt) : TI := fun σ H R => ∃ Zo Z ρ Qd Ed, VOk b Zo Z σ H ρ ∧ t ρ Qd Ed ∧
  (∀ J H' ds, Ex b H H' → b.G H' → Wk b (Y Z) Z H' J ds → Qd ds → R J H') ∧ ∀ c x H' er, Ex b H H' → b.G H' → ErRp b Z H' c x er → Ed er → W c x σ H'
/-- for a loop: what is owned may change; for a block: nothing but the zone -/
def VI (X : Cx) (b : Bg) (W : WX) (tg iter : Expr) (t : VIt) : Prop := PI X tg iter (LI b W (fun Z => Z) t)
def VIb (X : Cx) (b : Bg) (W : WX) (tg iter : Expr) (t : VIt) : Prop := PI X tg iter (LI b W (fun _ => b.B) t)
/-- a target -/
abbrev VTg := D → VEnv → (VEnv → Prop) → Prop
abbrev VTgs := List D → VEnv → (VEnv → Prop) → Prop
/-- the slots but those at js are as they were -/
structure Same (js : List Nat) (σ σ' : L2.St) (ρ ρ' : VEnv) : Prop where
  len : σ'.length = σ.length
  out : ∀ j, j ∉ js → σ'[j]? = σ[j]?
  env : ∀ j, j ∉ js → ρ'[j]? = ρ[j]?
theorem Same.refl {js : List Nat} {σ : L2.St} {ρ : VEnv} : Same js σ σ ρ ρ := ⟨rfl, fun _ _ => rfl, fun _ _ => rfl⟩
theorem Same.trans {js ks : List Nat} {σ σ1 σ2 : L2.St} {ρ ρ1 ρ2 : VEnv} (h : Same js σ σ1 ρ ρ1) (k : Same ks σ1 σ2 ρ1 ρ2) : Same (js ++ ks) σ σ2 ρ ρ2 :=
  ⟨k.len.trans h.len, fun j hj => (k.out j fun m => hj (List.mem_append_right _ m)).trans (h.out j fun m => hj (List.mem_append_left _ m)), fun j hj => (k.env j fun m => hj (List.mem_append_right _ m)).trans (h.env j fun m => hj (List.mem_append_left _ m))⟩
def LG (b : Bg) (js : List Nat) (t : VTg) : TG := fun v σ H Q => ∃ H0 M Zo Z ρ d Qd, FOk b H0 M Zo Z σ H ρ ∧ Rp b Z H v d ∧ t d ρ Qd ∧ ∀ Z' σ' ρ', (∀ a, Z' a → Z a) → Same js σ σ' ρ ρ' → FOk b H0 M Zo Z' σ' H ρ' → Qd ρ' → Q σ' H
def VG (X : Cx) (b : Bg) (tg : Expr) (js : List Nat) (t : VTg) : Prop := PG X tg (LG b js t)
theorem pg_mono {e : Expr} {t t' : TG} (h : PG X e t) (m : ∀ v σ H Q, t' v σ H Q → t v σ H Q) : PG X e t' := ⟨fun pins s σ H v u Q I r q => h.run pins s σ H v u Q I r (m v σ H Q q)⟩
@[simp] def tgName (i : Nat) : VTg := fun d ρ Q => i < ρ.length ∧ Q (ρ.set i (.shr d))
theorem vg_name (hN : X.N.Nodup) (hi : X.N[i]? = some x) (hx : Loc X.env.scope x) (hf : X.fn x = true ∨ X.env.scope.names.lookup x = some .local := by first | exact .inl rfl | exact .inr rfl | assumption) : VG X b (.Name x pos) [i] (tgName i) :=
  pg_mono (pg_name hN hi hx hf) fun v σ H Q ⟨H0, M, Zo, Z, ρ, d, Qd, f, r, ⟨hl, q⟩, k⟩ => k _ _ _ (f.v.but i) ⟨List.length_set .., fun j hj => List.getElem?_set_ne fun e => hj (by rw [e]; exact List.mem_singleton.mpr rfl), fun j hj => List.getElem?_set_ne fun e => hj (by rw [e]; exact List.mem_singleton.mpr rfl)⟩ (f.set hl r) q
/-- several targets -/
def LGs (b : Bg) (js : List Nat) (t : VTgs) : TGs := fun v σ H Q => ∃ H0 M Zo Z ρ d Qd, FOk b H0 M Zo Z σ H ρ ∧ Rps b Z H v d ∧ t d ρ Qd ∧ ∀ Z' σ' ρ', (∀ a, Z' a → Z a) → Same js σ σ' ρ ρ' → FOk b H0 M Zo Z' σ' H ρ' → Qd ρ' → Q σ' H
def VGs (X : Cx) (b : Bg) (tg : List Expr) (js : List Nat) (t : VTgs) : Prop := PGs X tg (LGs b js t)
theorem pgs_mono {e : List Expr} {t t' : TGs} (h : PGs X e t) (m : ∀ v σ H Q, t' v σ H Q → t v σ H Q) : PGs X e t' := ⟨fun pins s σ H v u Q I r q => h.run pins s σ H v u Q I r (m v σ H Q q)⟩
@[simp] def tgNil : VTgs
  | [], ρ, Q => Q ρ
  | _, _, _ => False
@[simp] def tgCons (t : VTg) (u : VTgs) : VTgs
  | d :: r, ρ, Q => t d ρ fun ρ' => u r ρ' Q
  | _, _, _ => False
theorem vgs_nil : VGs X b [] [] tgNil := pgs_mono pgs_nil fun v σ H Q ⟨H0, M, Zo, Z, ρ, d, Qd, f, r, q, k⟩ => by
  cases r with
  | nil => exact ⟨rfl, k Z σ ρ (fun _ z => z) .refl f q⟩
  | cons _ _ => exact False.elim q
theorem vgs_cons {tg : Expr} {tgs : List Expr} {js ks : List Nat} {t : VTg} {u : VTgs} (h1 : VG X b tg js t) (h2 : VGs X b tgs ks u)
    (hs : (assignEach (tg :: tgs) X.env).map (·.2) = assign tg X.env :: (assignEach tgs X.env).map (·.2) := by rfl) : VGs X b (tg :: tgs) (js ++ ks) (tgCons t u) :=
  pgs_mono (pgs_cons h1 h2 hs) fun v σ H Q ⟨H0, M, Zo, Z, ρ, d, Qd, f, r, q, k⟩ => by
    cases r with
    | nil => exact False.elim q
    | @cons _ d1 _ dr r1 rr => exact ⟨_, _, rfl, H0, M, Zo, Z, ρ, d1, _, f, r1, q, fun Z' σ' ρ' sub sm f' q' => ⟨H0, M, Zo, Z', ρ', dr, Qd, f', rr.mono (fun a z => .inl (sub a z)) (fun _ _ e _ => e), q', fun Z2 σ2 ρ2 sub2 sm2 f2 q2 => k Z2 σ2 ρ2 (fun a z => sub a (sub2 a z)) (sm.trans sm2) f2 q2⟩⟩
@[simp] def tgTup (n : Nat) (u : VTgs) : VTg
  | .py (.tuple ps), ρ, Q => ps.length = n ∧ u (ps.map D.py) ρ Q
  | _, _, _ => False
theorem tgTup_ex {n : Nat} {u : VTgs} : ∀ {d : D} {ρ : VEnv} {Q : VEnv → Prop}, tgTup n u d ρ Q → ∃ ps, d = .py (.tuple ps) ∧ ps.length = n ∧ u (ps.map D.py) ρ Q
  | .py (.tuple ps), _, _, h => ⟨ps, rfl, h⟩
theorem vg_tup {tgs : List Expr} {k n : Nat} {js : List Nat} {u : VTgs} (hc : X.calm = true) (h : VGs X b tgs js u) (hn : (assignEach tgs X.env).length = n := by rfl) (hst : (assignEach tgs X.env).findIdx? (·.1) = none := by rfl) : VG X b (.Tuple tgs k pos) js (tgTup n u) :=
  pg_mono (pg_tup hc h hn hst) fun v σ H Q ⟨H0, M, Zo, Z, ρ, d, Qd, f, r, hh, k⟩ => by
    obtain ⟨ps, e, hl, q⟩ := tgTup_ex hh
    subst e
    obtain ⟨a, o, xs, rfl, ha, ho, na, qa⟩ := Rb.tuple (b := b) (.inl r)
    exact ⟨a, xs, rfl, SqT.th ha, by rw [qa.length]; exact hl, H0, M, Zo, Z, ρ, _, Qd, f, qa.to, q, k⟩
/-- target = value -/
@[simp] def sAsg (t : VT) (g : VTg) : VS := fun ρ De => t ρ (fun d => g d ρ De.nx) (De.ex ρ)
theorem vs_asgT {tg : Expr} {js : List Nat} {g : VTg} (he : VE X b W e t) (hg : VG X b tg js g) (hs : swapsWithSole [tg] e pos.line X.env = pure false := by rfl) (hw : swappedStores [tg] e X.env = pure none := by rfl)
    (h1 : (assignEach [tg] X.env).map (·.2) = [assign tg X.env] := by rfl) : VSt X b W (.Assign [tg] e pos) (sAsg t g) :=
  ps_mono (ps_asg he hg hs hw h1) fun D σ H ⟨H0, M, Zo, Z, ρ, De, f, q, l⟩ => ⟨Zo, Z, ρ, _, _, f.v, q, fun v H' d x g r q' =>
    ⟨H0, M, Zo, Z, ρ, d, _, f.ex x g, r, q', fun Z' σ' ρ' _ _ f' q2 => l.nx Z' σ' H' ρ' f' q2⟩, l.er f⟩
end
end VL
set_option Elab.async false
set_option linter.all false
set_option maxRecDepth 100000
set_option maxHeartbeats 4000000
namespace VL
open PySem PySem.Spec PyProof.Rows L2
/-! ### values some of which are new -/
inductive Rm (b : Bg) (Y : Addr → Prop) (H H' : Hp) : List V → List (Bool × D) → List Addr → Prop
  | nil : Rm b Y H H' [] [] []
  | sh {v : V} {d : D} {vs : List V} {ms : List (Bool × D)} {N : List Addr} : Rp b Y H' v d → Rm b Y H H' vs ms N → Rm b Y H H' (v :: vs) ((false, d) :: ms) N
  | nw {a : Addr} {d : D} {vs : List V} {ms : List (Bool × D)} {N : List Addr} : H a = none → a ∉ N → Ow b Y H' a d → Rm b Y H H' vs ms N → Rm b Y H H' (.ref a :: vs) ((true, d) :: ms) (a :: N)
abbrev VAm := VEnv → (List (Bool × D) → Prop) → (Er → Prop) → Prop
def LAm (b : Bg) (W : WX) (t : VAm) : TA := fun σ H Q => ∃ Zo Z ρ Qd Ed, VOk b Zo Z σ H ρ ∧ t ρ Qd Ed ∧
  (∀ vs H' ms N, Ex b H H' → b.G H' → Rm b (fun c => Z c ∨ c ∈ N) H H' vs ms N → Qd ms → Q vs H') ∧ ∀ c x H' er, Ex b H H' → b.G H' → ErRp b Z H' c x er → Ed er → W c x σ H'
def VMs (X : Cx) (b : Bg) (W : WX) (es : List Expr) (t : VAm) : Prop := PA X es (LAm b W t)
@[simp] def mNil : VAm := fun _ Q _ => Q []
@[simp] def mCons (k : Bool) (t : VT) (u : VAm) : VAm := fun ρ Q E => t ρ (fun d => u ρ (fun ds => Q ((k, d) :: ds)) E) E
section
variable {b : Bg} {Y Y' : Addr → Prop} {H H' H1 : Hp} {vs : List V} {ms : List (Bool × D)} {N : List Addr}
theorem Rm.sub (h : ∀ c, Y' c → Y c) : ∀ {vs : List V} {ms : List (Bool × D)} {N : List Addr}, Rm b Y H H' vs ms N → Rm b Y' H H' vs ms N
  | _, _, _, .nil => .nil
  | _, _, _, .sh r t => .sh (r.mono (fun c z => .inl (h c z)) fun _ _ e _ => e) (Rm.sub h t)
  | _, _, _, .nw hn hm o t => .nw hn hm (o.mono (fun c z => .inl (h c z)) (fun _ _ e _ => e) fun _ e => e) (Rm.sub h t)
theorem Rm.back (h : ∀ c, H1 c = none → H c = none) : ∀ {vs : List V} {ms : List (Bool × D)} {N : List Addr}, Rm b Y H1 H' vs ms N → Rm b Y H H' vs ms N
  | _, _, _, .nil => .nil
  | _, _, _, .sh r t => .sh r (Rm.back h t)
  | _, _, _, .nw hn hm o t => .nw (h _ hn) hm o (Rm.back h t)
theorem Rm.new : ∀ {vs : List V} {ms : List (Bool × D)} {N : List Addr}, Rm b Y H H' vs ms N → ∀ c ∈ N, H c = none ∧ H' c ≠ none
  | _, _, _, .nil, _, h => nomatch h
  | _, _, _, .sh _ t, c, h => Rm.new t c h
  | _, _, _, .nw hn _ o t, c, h => by
    rcases List.mem_cons.mp h with rfl | h
    · obtain ⟨u, e⟩ := o.at
      exact ⟨hn, by rw [e]; simp⟩
    · exact Rm.new t c h
theorem none_back (g : b.G H1) (x : Ex b H H1) (c : Addr) (h : H1 c = none) : H c = none := by
  cases q : H c with
  | none => rfl
  | some u =>
    by_cases hb : b.B c
    · exact absurd h (b.dom _ _ g hb)
    · rw [x c u q hb] at h; cases h
end
section
variable {b : Bg} {Zo Z : Addr → Prop} {σ : L2.St} {H H' : Hp} {ρ : VEnv}
/-- new addresses held apart by an outer one -/
theorem VOk.many (v : VOk b Zo Z σ H ρ) (x : Ex b H H') (g : b.G H') {N : List Addr} (hN : ∀ c ∈ N, H c = none ∧ H' c ≠ none) : VOk b (fun c => Zo c ∨ c ∈ N) (fun c => Z c ∨ c ∈ N) σ H' ρ := by
  have v' := v.ex x g
  have hz : ∀ c, (Z c ∨ c ∈ N) → Z c ∨ H c = none := fun c z => z.imp id fun m => (hN c m).1
  refine ⟨g, fun c z => .inl (v.zb c z), fun c z => z.imp (v.zo c) id, fun c z => z.elim (v'.dom c) fun m => (hN c m).2, fun c z => z.elim (fun z => (v.zi c z).imp .inl id) fun m => .inl (.inr m), fun i d e => ?_, v.inj, fun i d e => ?_, v.len⟩
  · obtain ⟨a, h1, h2, h3, h4⟩ := v.own i d e
    refine ⟨a, h1, .inl h2, fun z => z.elim h3 fun m => v.dom a h2 (hN a m).1, h4.mono hz (v.keep x) fun o q => x a o q fun z => h3 (v.zb a z)⟩
  · obtain ⟨u, h1, h2⟩ := v.shr i d e
    exact ⟨u, h1, h2.mono hz (v.keep x)⟩
end
section
variable {X : Cx} {b : Bg} {W : WX} {e e1 e2 : Expr} {es : List Expr} {t t1 t2 : VT} {u : VAm} {pos : Pos}
theorem vm_nil : VMs X b W [] mNil := pa_mono pa_nil fun σ H Q ⟨Zo, Z, ρ, Qd, Ed, v, q, l, _⟩ => l [] H [] [] Ex.refl v.g .nil q
theorem vm_sh (h : VE X b W e t) (k : VMs X b W es u) (hs : starEach (e :: es) X.env = (false, eval e X.env) :: starEach es X.env := by rfl) : VMs X b W (e :: es) (mCons false t u) :=
  pa_mono (pa_cons h k hs) fun σ H Q ⟨Zo, Z, ρ, Qd, Ed, v, q, l, m⟩ => ⟨Zo, Z, ρ, _, Ed, v, q, fun x H1 d x1 g1 r1 q1 =>
    ⟨Zo, Z, ρ, _, Ed, v.ex x1 g1, q1, fun xs H2 ms N x2 g2 r2 q2 => l (x :: xs) H2 ((false, d) :: ms) N (x1.trans x2) g2
        (.sh (r1.mono (fun c z => z.imp id fun m => (r2.new c m).1) ((v.ex x1 g1).keep x2)) (r2.back (none_back g1 x1))) q2,
      fun c y H2 er x2 g2 r2 q2 => m c y H2 er (x1.trans x2) g2 r2 q2⟩, m⟩
theorem vm_nw (h : VN X b W e t) (k : VMs X b W es u) (hs : starEach (e :: es) X.env = (false, eval e X.env) :: starEach es X.env := by rfl) : VMs X b W (e :: es) (mCons true t u) :=
  pa_mono (pa_cons h k hs) fun σ H Q ⟨Zo, Z, ρ, Qd, Ed, v, q, l, m⟩ => ⟨Zo, Z, ρ, _, Ed, v, q, fun x H1 d x1 g1 ⟨a, ex, hn, o⟩ q1 => by
    subst ex
    obtain ⟨oa, ea⟩ := o.at
    have h1 : H1 a ≠ none := by rw [ea]; simp
    have nb : ¬ b.B a := fun z => v.fresh hn (v.zo a (v.zb a z))
    have v1 := v.many x1 g1 (N := [a]) fun c hc => by rw [List.mem_singleton.mp hc]; exact ⟨hn, h1⟩
    refine ⟨_, _, ρ, _, Ed, v1, q1, fun xs H2 ms N x2 g2 r2 q2 => ?_, fun c y H2 er x2 g2 r2 q2 => m c y H2 er (x1.trans x2) g2 ?_ q2⟩
    · have hN : a ∉ N := fun hm => h1 (r2.new a hm).1
      refine l (.ref a :: xs) H2 ((true, d) :: ms) (a :: N) (x1.trans x2) g2 (.nw hn hN ?_ ((r2.sub fun c z => ?_).back (none_back g1 x1))) q2
      · refine o.mono (fun c z => ?_) (fun c oc ec nc => x2 c oc ec fun z => nc (.inl (v.zo c (v.zb c z)))) fun oc ec => x2 a oc ec nb
        rcases z with z | z
        · exact .inl (.inl z)
        · rcases List.mem_cons.mp z with rfl | z
          · exact .inl (.inr rfl)
          · exact .inr (r2.new c z).1
      · rcases z with z | z
        · exact .inl (.inl z)
        · rcases List.mem_cons.mp z with rfl | z
          · exact .inl (.inr (List.mem_singleton.mpr rfl))
          · exact .inr z
    · obtain ⟨h3, h4⟩ := r2
      refine ⟨h3, h4.imp id ?_⟩
      rintro ⟨c, ys, e1, e2, e3, e4⟩
      exact ⟨c, ys, e1, e2, fun z => e3 (.inl z), e4.mono (fun c z => .inl (.inl z)) fun _ _ e _ => e⟩, m⟩
end
/-! ### a, b, .. = values -/
def setA : List Nat → List V → L2.St → L2.St
  | i :: is, v :: vs, σ => setA is vs (σ.set i (some v))
  | _, _, σ => σ
@[simp] def setE : List Nat → List (Bool × D) → VEnv → VEnv
  | i :: is, (k, d) :: ms, ρ => setE is ms (ρ.set i (if k = true then .own d else .shr d))
  | _, _, ρ => ρ
section
variable {b : Bg} {W : WX} {H0 : Hp} {M Zo Z : Addr → Prop} {σ : L2.St} {H H' : Hp} {ρ : VEnv} {De : VEnds} {Dn : Ends}
theorem FOk.many (f : FOk b H0 M Zo Z σ H ρ) (x : Ex b H H') (g : b.G H') {N : List Addr} (hN : ∀ c ∈ N, H c = none ∧ H' c ≠ none) : FOk b H0 M (fun c => Zo c ∨ c ∈ N) (fun c => Z c ∨ c ∈ N) σ H' ρ :=
  ⟨f.v.many x g hN, fun a o e nb nm => x a o (f.ext a o e nb nm) nb, f.fr⟩
/-- an address held apart becomes slot i's own -/
theorem FOk.adopt {a : Addr} {N : List Addr} {d : D} {i : Nat} (f : FOk b H0 M (fun c => Zo c ∨ c ∈ a :: N) Z σ H ρ) (hzb : ∀ c, b.B c → Zo c) (hN : a ∉ N) (hz : ¬ Zo a) (hf : M a ∨ H0 a = none) (hi : i < ρ.length) (o : Ow b Z H a d) :
    ∃ Z', FOk b H0 M (fun c => Zo c ∨ c ∈ N) Z' (σ.set i (some (.ref a))) H (ρ.set i (.own d)) ∧ ∀ c, Z' c → Z c := by
  have v := f.v
  have hiσ : i < σ.length := by rw [← v.len]; exact hi
  have hza : Z a := v.zo a (.inr List.mem_cons_self)
  have low : ∀ c, (Zo c ∨ c ∈ N) → (Zo c ∨ c ∈ a :: N) := fun c z => z.imp id (List.mem_cons_of_mem _)
  let Z' : Addr → Prop := fun c => (zBut (fun c => Zo c ∨ c ∈ N) σ ρ i c) ∨ c = a
  have sub : ∀ c, Z' c → Z c := fun c z => by
    rcases z with (z | ⟨j, e, _, h1, h2⟩) | rfl
    · exact v.zo c (low c z)
    · obtain ⟨c', h3, h4, _⟩ := v.own j e h1
      rw [h2] at h3; cases h3; exact h4
    · exact hza
  have na : ∀ (j : Nat) (e : D) (c : Addr), ρ[j]? = some (.own e) → σ[j]? = some (some (.ref c)) → c ≠ a := fun j e c h1 h2 q => by
    obtain ⟨c', h3, _, h4, _⟩ := v.own j e h1
    rw [h2] at h3; cases h3; rw [q] at h4
    exact h4 (.inr List.mem_cons_self)
  have ow : ∀ {j : Nat} {e : D}, (ρ.set i (.own d))[j]? = some (.own e) → (j = i ∧ e = d) ∨ (j ≠ i ∧ ρ[j]? = some (.own e)) := fun {j e} h => by
    by_cases hj : j = i
    · subst hj
      rw [List.getElem?_set_self hi] at h; cases h; exact .inl ⟨rfl, rfl⟩
    · rw [List.getElem?_set_ne (Ne.symm hj)] at h
      exact .inr ⟨hj, h⟩
  refine ⟨Z', ⟨⟨v.g, fun c z => .inl (hzb c z), fun c z => .inl (.inl z), fun c z => v.dom c (sub c z), fun c z => ?_, fun j e h => ?_, fun j k e e2 c h1 h2 h3 h4 => ?_, fun j e h => ?_, by simpa using v.len⟩, f.ext, fun j e c h1 h2 => ?_⟩, sub⟩
  · rcases z with (z | ⟨j, e, hj, h1, h2⟩) | rfl
    · exact .inl z
    · exact .inr ⟨j, e, by rw [List.getElem?_set_ne (Ne.symm hj)]; exact h1, by rw [List.getElem?_set_ne (Ne.symm hj)]; exact h2⟩
    · exact .inr ⟨i, d, List.getElem?_set_self hi, List.getElem?_set_self hiσ⟩
  · rcases ow h with ⟨q1, q2⟩ | ⟨hj, p1⟩
    · rw [q1, q2]
      exact ⟨a, List.getElem?_set_self hiσ, .inr rfl, fun z => z.elim hz hN, o.mono (fun c z => .inl (sub c z)) (fun _ _ e _ => e) fun _ e => e⟩
    · obtain ⟨c, h1, h2, h3, h4⟩ := v.own j e p1
      exact ⟨c, by rw [List.getElem?_set_ne (Ne.symm hj)]; exact h1, .inl (.inr ⟨j, e, hj, p1, h1⟩), fun z => h3 (low c z), h4.mono (fun c z => .inl (sub c z)) (fun _ _ e _ => e) fun _ e => e⟩
  · rcases ow h1 with ⟨q1, _⟩ | ⟨hj, p1⟩
    · rcases ow h2 with ⟨q2, _⟩ | ⟨hk, p2⟩
      · rw [q1, q2]
      · rw [q1, List.getElem?_set_self hiσ] at h3; cases h3
        rw [List.getElem?_set_ne (Ne.symm hk)] at h4
        exact absurd rfl (na k e2 _ p2 h4)
    · rw [List.getElem?_set_ne (Ne.symm hj)] at h3
      rcases ow h2 with ⟨q2, _⟩ | ⟨hk, p2⟩
      · rw [q2, List.getElem?_set_self hiσ] at h4; cases h4
        exact absurd rfl (na j e _ p1 h3)
      · rw [List.getElem?_set_ne (Ne.symm hk)] at h4
        exact v.inj j k e e2 c p1 p2 h3 h4
  · by_cases hj : j = i
    · rw [hj, List.getElem?_set_self hi] at h; cases h
    · rw [List.getElem?_set_ne (Ne.symm hj)] at h
      obtain ⟨w, h1, h2⟩ := v.shr j e h
      exact ⟨w, by rw [List.getElem?_set_ne (Ne.symm hj)]; exact h1, h2.mono (fun c z => .inl (sub c z)) fun _ _ e _ => e⟩
  · rcases ow h1 with ⟨q1, _⟩ | ⟨hj, p1⟩
    · rw [q1, List.getElem?_set_self hiσ] at h2; cases h2
      exact hf
    · rw [List.getElem?_set_ne (Ne.symm hj)] at h2
      exact f.fr j e c p1 h2
/-- all of them, one after another -/
theorem FOk.setAll (hb : ∀ c, b.B c → Zo c) : ∀ (is : List Nat) (vs : List V) (ms : List (Bool × D)) (N : List Addr) (Z : Addr → Prop) (σ : L2.St) (ρ : VEnv), FOk b H0 M (fun c => Zo c ∨ c ∈ N) Z σ H' ρ → Rm b Z H H' vs ms N → (∀ c ∈ N, ¬ Zo c ∧ (M c ∨ H0 c = none)) →
    ms.length = is.length → (∀ i ∈ is, i < ρ.length) → ∃ Z', FOk b H0 M Zo Z' (VL.setA is vs σ) H' (setE is ms ρ) := by
  intro is
  induction is with
  | nil =>
    intro vs ms N Z σ ρ f r hN hl hi
    cases r with
    | nil =>
      refine ⟨Z, ?_⟩
      have e : (fun c => Zo c ∨ c ∈ ([] : List Addr)) = Zo := by funext c; simp
      rw [e] at f
      exact f
    | sh _ _ => simp at hl
    | nw _ _ _ _ => simp at hl
  | cons i is ih =>
    intro vs ms N Z σ ρ f r hN hl hi
    cases r with
    | nil => simp at hl
    | sh r t =>
      have f1 := f.set (hi i List.mem_cons_self) r
      exact ih _ _ _ _ _ _ f1 (t.sub (f.v.but i)) hN (by simpa using hl) fun j hj => by rw [List.length_set]; exact hi j (List.mem_cons_of_mem _ hj)
    | nw hn hm o t =>
      obtain ⟨Z1, f1, sub⟩ := f.adopt hb hm (hN _ List.mem_cons_self).1 (hN _ List.mem_cons_self).2 (hi i List.mem_cons_self) o
      exact ih _ _ _ _ _ _ f1 (t.sub sub) (fun c hc => hN c (List.mem_cons_of_mem _ hc)) (by simpa using hl) fun j hj => by rw [List.length_set]; exact hi j (List.mem_cons_of_mem _ hj)
theorem FOk.par (f : FOk b H0 M Zo Z σ H ρ) {is : List Nat} {vs : List V} {ms : List (Bool × D)} {N : List Addr} (x : Ex b H H') (g : b.G H') (r : Rm b (fun c => Z c ∨ c ∈ N) H H' vs ms N) (hl : ms.length = is.length) (hi : ∀ i ∈ is, i < ρ.length) : ∃ Z', FOk b H0 M Zo Z' (VL.setA is vs σ) H' (setE is ms ρ) := by
  refine FOk.setAll f.v.zb is vs ms N _ σ ρ (f.many x g r.new) r (fun c hc => ⟨fun z => f.v.dom c (f.v.zo c z) (r.new c hc).1, ?_⟩) hl hi
  have hn := (r.new c hc).1
  cases q : H0 c with
  | none => exact .inr rfl
  | some u =>
    by_cases hb : b.B c
    · exact absurd hn (b.dom _ _ f.v.g hb)
    · by_cases hm : M c
      · exact .inl hm
      · have := f.ext c u q hb hm
        rw [hn] at this; cases this
end
section
variable {X : Cx} {b : Bg} {W : WX} {e e1 e2 e3 : Expr} {es : List Expr} {t t1 t2 : VT} {u : VAm} {pos : Pos}
@[simp] def sPar (is : List Nat) (u : VAm) : VS := fun ρ De => (∀ i ∈ is, i < ρ.length) ∧ u ρ (fun ms => ms.length = is.length ∧ De.nx (setE is ms ρ)) (De.ex ρ)
theorem Rm.len {Y : Addr → Prop} {H H' : Hp} : ∀ {vs : List V} {ms : List (Bool × D)} {N : List Addr}, Rm b Y H H' vs ms N → vs.length = ms.length
  | _, _, _, .nil => rfl
  | _, _, _, .sh _ t => congrArg (· + 1) (Rm.len t)
  | _, _, _, .nw _ _ _ t => congrArg (· + 1) (Rm.len t)
theorem vs_par2 {i j : Nat} {x y : Str} {px py pt : Pos} {kt k2 pt2} (hc : X.calm = true) (hN : X.N.Nodup) (hi : X.N[i]? = some x) (hj : X.N[j]? = some y) (hij : i ≠ j)
    (hx : X.env.scope.names.lookup x = some .local) (hy : X.env.scope.names.lookup y = some .local) (ha : VMs X b W [e1, e2] u)
    (hw : swappedStores [.Tuple [.Name x px, .Name y py] kt pt] (.Tuple [e1, e2] k2 pt2) X.env = pure (some [x, y]))
    (hs : swapsWithSole [.Tuple [.Name x px, .Name y py] kt pt] (.Tuple [e1, e2] k2 pt2) pos.line X.env = pure false := by rfl) :
    VSt X b W (.Assign [.Tuple [.Name x px, .Name y py] kt pt] (.Tuple [e1, e2] k2 pt2) pos) (sPar [i, j] u) :=
  ps_mono (ps_par hc hN hi hj hij hx hy ha hw hs) fun D σ H ⟨H0, M, Zo, Z, ρ, De, f, ⟨hl, q⟩, l⟩ => ⟨Zo, Z, ρ, _, _, f.v, q, fun vs H' ms N x g r ⟨hm, q'⟩ => by
    obtain ⟨Z', f'⟩ := f.par (is := [i, j]) x g r hm hl
    match vs, r.len.trans hm with
    | [v, w], _ => exact ⟨v, w, rfl, l.nx Z' _ H' _ f' q'⟩, l.er f⟩
theorem vs_par3 {i j k : Nat} {x y z : Str} {px py pz pt : Pos} {kt k2 pt2} (hc : X.calm = true) (hN : X.N.Nodup) (hi : X.N[i]? = some x) (hj : X.N[j]? = some y) (hk : X.N[k]? = some z) (hij : i ≠ j) (hik : i ≠ k) (hjk : j ≠ k)
    (hx : X.env.scope.names.lookup x = some .local) (hy : X.env.scope.names.lookup y = some .local) (hz : X.env.scope.names.lookup z = some .local) (ha : VMs X b W [e1, e2, e3] u)
    (hw : swappedStores [.Tuple [.Name x px, .Name y py, .Name z pz] kt pt] (.Tuple [e1, e2, e3] k2 pt2) X.env = pure (some [x, y, z]))
    (hs : swapsWithSole [.Tuple [.Name x px, .Name y py, .Name z pz] kt pt] (.Tuple [e1, e2, e3] k2 pt2) pos.line X.env = pure false := by rfl) :
    VSt X b W (.Assign [.Tuple [.Name x px, .Name y py, .Name z pz] kt pt] (.Tuple [e1, e2, e3] k2 pt2) pos) (sPar [i, j, k] u) :=
  ps_mono (ps_par3 hc hN hi hj hk hij hik hjk hx hy hz ha hw hs) fun D σ H ⟨H0, M, Zo, Z, ρ, De, f, ⟨hl, q⟩, l⟩ => ⟨Zo, Z, ρ, _, _, f.v, q, fun vs H' ms N x g r ⟨hm, q'⟩ => by
    obtain ⟨Z', f'⟩ := f.par (is := [i, j, k]) x g r hm hl
    match vs, r.len.trans hm with
    | [v, w, y], _ => exact ⟨v, w, y, rfl, l.nx Z' _ H' _ f' q'⟩, l.er f⟩
/-- the targets' reading: names -/
def gNames : List Nat → TGs
  | [] => gNil
  | i :: is => gCons (gName i) (gNames is)
theorem gNames_set : ∀ {is : List Nat} {vs : List V} {σ : L2.St} {H : Hp} {Q : L2.St → Hp → Prop}, vs.length = is.length → Q (VL.setA is vs σ) H → gNames is vs σ H Q
  | [], [], _, _, _, _, q => ⟨rfl, q⟩
  | i :: is, v :: vs, σ, H, Q, h, q => ⟨v, vs, rfl, gNames_set (by simpa using h) q⟩
/-- by way of a tuple -/
theorem vs_parT {is : List Nat} {tgs : List Expr} {kt k2} {pt pt2 : Pos} (hc : X.calm = true) (hg : PGs X tgs (gNames is)) (ha : VMs X b W es u) (hn : (assignEach tgs X.env).length = is.length := by rfl) (hst : (assignEach tgs X.env).findIdx? (·.1) = none := by rfl)
    (hz : is.length ≤ 1000 := by decide) (hs : swapsWithSole [.Tuple tgs kt pt] (.Tuple es k2 pt2) pos.line X.env = pure false := by rfl) (hw : swappedStores [.Tuple tgs kt pt] (.Tuple es k2 pt2) X.env = pure none := by rfl)
    (h1 : (assignEach [.Tuple tgs kt pt] X.env).map (·.2) = [assign (.Tuple tgs kt pt) X.env] := by rfl) :
    VSt X b W (.Assign [.Tuple tgs kt pt] (.Tuple es k2 pt2) pos) (sPar is u) :=
  ps_mono (ps_asg (pe_tupF ha) (pg_tup hc hg hn hst) hs hw h1) fun D σ H ⟨H0, M, Zo, Z, ρ, De, f, ⟨hl, q⟩, l⟩ => ⟨Zo, Z, ρ, _, _, f.v, q, fun vs H' ms N x g r ⟨hm, q'⟩ => by
    obtain ⟨Z', f'⟩ := f.par (is := is) x g r hm hl
    have hv : vs.length = is.length := r.len.trans hm
    refine ⟨Nat.le_of_lt (small1000 (by rw [hv]; exact hz)), fun p o hp ho => ⟨p, vs, rfl, SqT.th upd_same, hv, gNames_set hv ?_⟩⟩
    exact l.nx Z' _ _ _ (f'.ex (Ex.new hp) (Bg.new g hp)) q', l.er f⟩
end
end VL
set_option Elab.async false
set_option linter.all false
set_option maxRecDepth 100000
set_option maxHeartbeats 4000000
namespace VL
open PySem PySem.Spec PyProof.Rows L2
/-! ### sources: a list, a tuple, a text -/
inductive Kd where
  | l (a : Addr) | t (a : Addr) | s (x : Str) (k : Tok)
def Kd.val : Kd → Value
  | .l a => .ref a | .t a => .ref a | .s x k => .str x k
def Kd.obj : Kd → Obj
  | .l a => { cls := .type "list_iterator", data := .fields #[.ref a, .int 0 0] }
  | .t a => { cls := .type "tuple_iterator", data := .fields #[.ref a, .int 0 0] }
  | .s x k => { cls := .type (strIterType x), data := .fields #[.str x k, .int 0 0] }
/-- the walker at it stands at item i -/
def Kd.At : Kd → Addr → Nat → Heap → Prop
  | .l a, it, i, h => h.IsListIter it a i
  | .t a, it, i, h => h.IsTupleIter it a i
  | .s x k, it, i, h => h.IsStrIter it (strIterType x) x k i
def Kd.ad : Kd → List Addr
  | .l a => [a] | .t a => [a] | .s _ _ => []
def signs (x : Str) : List V := x.cps.toList.map fun c => V.str (mkS [c])
def Kd.gives (K : PySem.W.Frag) (H : Hp) : Kd → List V → Prop
  | .l a, xs => SqL K H a xs
  | .t a, xs => SqT K H a xs
  | .s x _, xs => xs = signs x
theorem Kd.begins {X : Cx} {pins : List (Addr × Obj)} {σ : L2.St} {H : Hp} {s : Shared} (I : Inv X pins σ H s) {k : Kd} {xs : List V} (g : k.gives X.K H xs) : ∃ Hs, Begins k.val k.obj Hs ∧ Hs s.heap ∧ ∀ b ∈ k.ad, b < s.heap.objs.size := by
  cases k with
  | l a =>
    obtain ⟨its, _, p, _⟩ := I.list g
    exact ⟨_, begins_list a its.toArray, p.isList, fun b hb => by rw [List.mem_singleton.mp hb]; exact p.lt⟩
  | t a =>
    obtain ⟨its, _, p, _⟩ := I.tuple g
    obtain ⟨o, ho, _⟩ := id p
    exact ⟨_, begins_tuple a its.toArray, p, fun b hb => by rw [List.mem_singleton.mp hb]; exact Heap.lt_size ho⟩
  | s x t => exact ⟨_, begins_text x t, trivial, fun b hb => by cases hb⟩
theorem Kd.start {k : Kd} {it : Addr} {h : Heap} (e : h.get? it = some k.obj) : k.At it 0 h := by
  cases k with
  | l a => exact ⟨_, e, rfl, rfl⟩
  | t a => exact ⟨_, e, rfl, rfl⟩
  | s x t => exact ⟨_, e, rfl, rfl⟩
theorem Kd.At.at {k : Kd} {it : Addr} {i : Nat} {h h' : Heap} (st : k.At it i h) (e : ∀ o, h.get? it = some o → h'.get? it = some o) : k.At it i h' := by
  cases k with
  | l a => exact Heap.IsListIter.at st e
  | t a => exact Heap.IsTupleIter.at st e
  | s x t => obtain ⟨o, ho, r⟩ := st; exact ⟨o, e o ho, r⟩
theorem Kd.At.rec' {k : Kd} {it : Addr} {i : Nat} {h : Heap} (st : k.At it i h) : ∃ o vs, h.get? it = some o ∧ o.data = .fields vs := by
  cases k with
  | l a => obtain ⟨o, ho, _, hd⟩ := st; exact ⟨o, _, ho, hd⟩
  | t a => obtain ⟨o, ho, _, hd⟩ := st; exact ⟨o, _, ho, hd⟩
  | s x t => obtain ⟨o, ho, _, hd⟩ := st; exact ⟨o, _, ho, hd⟩
theorem signs_get {x : Str} {i : Nat} {c : Nat} (h : x.cps[i]? = some c) : (signs x)[i]? = some (V.str (mkS [c])) := by
  unfold signs
  rw [List.getElem?_map, Array.getElem?_toList, h]
  rfl
theorem vals_at : ∀ {xs : List V} {its : List Value} {i : Nat} {u : Value}, Vals xs its → its[i]? = some u → ∃ y, xs[i]? = some y ∧ RelV y u
  | _, _, _, _, .nil, e => by simp at e
  | _, _, 0, _, .cons r _, e => by simp at e; subst e; exact ⟨_, rfl, r⟩
  | _, _, i + 1, _, .cons _ t, e => by
    obtain ⟨y, h1, h2⟩ := vals_at (i := i) t (by simpa using e)
    exact ⟨y, by simpa using h1, h2⟩
/-- what a source draws -/
theorem Kd.draws {X : Cx} {pins : List (Addr × Obj)} {σ : L2.St} {H : Hp} {s : Shared} (I : Inv X pins σ H s) (hc : X.calm = true) {k : Kd} {xs : List V} (g : k.gives X.K H xs) (it : Addr) (hne : it ∉ k.ad) :
    ∃ (P : Nat → Value → Prop) (St : Nat → Heap → Prop), Draws X.prog X.w X.A.in1 it (it :: k.ad) xs.length P St ∧ (∀ i, k.At it i s.heap → St i s.heap) ∧ (∀ i h, St i h → k.At it i h) ∧ ∀ i v, P i v → ∃ y, xs[i]? = some y ∧ RelV y v := by
  have hh : X.A.in1.handled = none := I.ok.hd hc
  cases k with
  | l a =>
    obtain ⟨its, r, p, _⟩ := I.list g
    have hn : a ≠ it := fun e => hne (by rw [e]; exact List.mem_singleton.mpr rfl)
    have D := Draws.list (prog := X.prog) (w := X.w) (A := X.A.in1) hh it a hn its.toArray
    rw [List.size_toArray, ← r.length] at D
    exact ⟨_, _, D, fun i st => ⟨st, p.isList⟩, fun i h st => st.1, fun i v hv => vals_at r (by simpa using hv)⟩
  | t a =>
    obtain ⟨its, r, p, _⟩ := I.tuple g
    have hn : a ≠ it := fun e => hne (by rw [e]; exact List.mem_singleton.mpr rfl)
    have D := Draws.tuple (prog := X.prog) (w := X.w) (A := X.A.in1) hh it a hn its.toArray
    rw [List.size_toArray, ← r.length] at D
    exact ⟨_, _, D, fun i st => ⟨st, p⟩, fun i h st => st.1, fun i v hv => vals_at r (by simpa using hv)⟩
  | s x t =>
    obtain rfl : xs = signs x := g
    have D := Draws.text (prog := X.prog) (w := X.w) (A := X.A.in1) hh it x t
    have e : (signs x).length = x.cps.size := by unfold signs; simp
    rw [← e] at D
    refine ⟨_, _, D, fun i st => st, fun i h st => st, fun i v hv => ?_⟩
    obtain ⟨c, u, h1, rfl⟩ := hv
    exact ⟨_, signs_get h1, u, rfl⟩
theorem Kd.gives_inj {X : Cx} {pins : List (Addr × Obj)} {σ : L2.St} {H : Hp} {s : Shared} (I : Inv X pins σ H s) {k : Kd} {xs ys : List V} (g : k.gives X.K H xs) (g' : k.gives X.K H ys) : xs = ys := by
  cases k with
  | l a => exact I.list_inj g g'
  | t a => exact I.tuple_inj g g'
  | s x t => exact g.trans g'.symm
/-! ### a walk over a source -/
/-- what a walk of items gives -/
def Itk (K : PySem.W.Frag) (k : Kd) : It :=
  ⟨fun i H => ∃ xs x, k.gives K H xs ∧ xs[i]? = some x, fun i H x H' => H' = H ∧ ∀ xs, k.gives K H xs → xs[i]? = some x, fun i H => ∃ xs, k.gives K H xs ∧ xs.length ≤ i⟩
theorem Turn.imp {P : Program} {w : World} {K : PySem.W.Frag} {tg : Expr} {J J' : It} {fp : List Addr} {it : Addr} {tn : Nat → Heap → Prop} (T : Turn P w K tg J fp it tn) (h1 : ∀ i H, J'.go i H → J.go i H) (h2 : ∀ i H x H', J'.go i H → J.yld i H x H' → J'.yld i H x H') (h3 : ∀ i H, J'.stop i H → J.stop i H) : Turn P w K tg J' fp it tn where
  mem := T.mem
  obj := T.obj
  keep := T.keep
  item := fun X hP hw hK hc i pins s σ H E I hf st hg => thn (T.item X hP hw hK hc i pins s σ H E I hf st (h1 i H hg)) fun r s1 ⟨u, hr, q⟩ => ⟨u, hr, thn q fun _ s2 ⟨x, H', I', rx, y, st', f'⟩ => ⟨x, H', I', rx, h2 i H x H' hg y, st', f'⟩⟩
  done := fun X hP hw hK hc i pins s σ H E I hf st hg => T.done X hP hw hK hc i pins s σ H E I hf st (h3 i H hg)
  self := T.self
theorem turn_kd {P : Program} {w : World} {K : PySem.W.Frag} {tg : Expr} (k : Kd) (it : Addr) : Turn P w K tg (Itk K k) [it] it (fun i h => k.At it i h) := by
  cases k with
  | l a => exact Turn.imp (turn_list a it) (fun i H ⟨xs, x, h⟩ => ⟨xs, x, h⟩) (fun i H x H' _ h => h) fun i H h => h
  | t a => exact Turn.imp (turn_tuple a it) (fun i H ⟨xs, x, h⟩ => ⟨xs, x, h⟩) (fun i H x H' _ h => h) fun i H h => h
  | s x t =>
    have e : (signs x).length = x.cps.size := by unfold signs; simp
    refine Turn.imp (turn_str it x t (strIterType x) (by unfold strIterType; split <;> simp)) (fun i H ⟨xs, y, h, hy⟩ => ?_) (fun i H y H' _ h => ?_) fun i H ⟨xs, h, hl⟩ => ?_
    · obtain rfl : xs = signs x := h
      obtain ⟨hlt, _⟩ := List.getElem?_eq_some_iff.mp hy
      rw [e] at hlt
      exact hlt
    · obtain ⟨h1, c, hcx, hy⟩ := h
      refine ⟨h1, fun xs h => ?_⟩
      obtain rfl : xs = signs x := h
      rw [hy]
      exact signs_get hcx
    · obtain rfl : xs = signs x := h
      rw [e] at hl
      exact hl
/-- a source's value -/
inductive Src (K : PySem.W.Frag) (H : Hp) : V → List V → (Kd → Prop) → Prop
  | l {a : Addr} {xs : List V} : SqL K H a xs → Src K H (.ref a) xs fun k => k = .l a
  | t {a : Addr} {xs : List V} : SqT K H a xs → Src K H (.ref a) xs fun k => k = .t a
  | s {x : Str} : Src K H (.str x) (signs x) fun k => ∃ t, k = .s x t
theorem Src.kd {K : PySem.W.Frag} {H : Hp} {v : V} {xs : List V} {C : Kd → Prop} (h : Src K H v xs C) {u : Value} (r : RelV v u) : ∃ k, C k ∧ k.val = u ∧ k.gives K H xs := by
  cases h with
  | l h => cases r; exact ⟨_, rfl, rfl, h⟩
  | t h => cases r; exact ⟨_, rfl, rfl, h⟩
  | s => obtain ⟨t, rfl⟩ := r; exact ⟨_, ⟨t, rfl⟩, rfl, rfl⟩
section
variable {X : Cx} {tg e e2 e3 : Expr} {p pos : Pos}
def iSrc (K : PySem.W.Frag) (te : TE) : TI := fun σ H R => te σ H fun x H1 => ∃ xs C, Src K H1 x xs C ∧ ∀ k, C k → R (Itk K k) H1
theorem pi_src {te : TE} (he : PE X e te) : PI X tg e (iSrc X.K te) := by
  refine ⟨fun pins s σ H R I h => ?_⟩
  refine thn (he.run pins s σ H _ I h) fun v s1 ⟨y, H1, I1, r1, xs, C, sx, q⟩ => ?_
  obtain ⟨k, hk, rfl, g⟩ := sx.kd r1
  obtain ⟨Hs, B, hs, _⟩ := k.begins I1 g
  exact B.iter _ _ _ _ _ _ hs (pi_one (tk := s1.toks) I1 _ (turn_kd k _) (Kd.start (Heap.get?_push_size _ B.free)) (q k hk))
end
/-! ### enumerate -/
def Iek (K : PySem.W.Frag) (k : Kd) : It :=
  ⟨fun i H => ∃ xs x, k.gives K H xs ∧ xs[i]? = some x, fun i H v H' => ∃ T o x, v = .ref T ∧ H T = none ∧ o.dict = none ∧ H' = upd H T (HO.th o [.int (i : Nat), x]) ∧ ∀ xs, k.gives K H xs → xs[i]? = some x, fun i H => ∃ xs, k.gives K H xs ∧ xs.length = i⟩
theorem lt_of_get {h : Heap} {b : Addr} {o : Obj} (e : h.get? b = some o) : b < h.objs.size := Heap.lt_size e
theorem turn_ek {P : Program} {w : World} {K : PySem.W.Frag} {elts : List Expr} {kk : Nat} {tpos : Pos} (k : Kd) {en it : Addr} (hne : en ≠ it) (h1 : en ∉ k.ad) (h2 : it ∉ k.ad) :
    Turn P w K (.Tuple elts kk tpos) (Iek K k) [en, it] en (fun i h => (∃ old, IsEnum h en it ((i : Nat) : Int) old) ∧ k.At it i h) where
  mem := List.mem_cons_self
  obj := fun i h ⟨⟨old, he⟩, hi⟩ b hb => by
    rcases List.mem_cons.mp hb with rfl | hb
    · exact ⟨_, he, nofun⟩
    · rw [List.mem_singleton.mp hb]
      obtain ⟨o, vs, ho, hd⟩ := hi.rec'
      exact ⟨o, ho, fun v q => by rw [hd] at q; cases q⟩
  keep := fun i h h' ⟨⟨old, he⟩, hi⟩ kp => ⟨⟨old, kp en List.mem_cons_self _ he⟩, hi.at fun o q => kp it (by simp) o q⟩
  item := by
    rintro X rfl rfl rfl hc i pins s σ H E I hf ⟨⟨old, he⟩, hi⟩ ⟨xs, x, g, hx⟩
    obtain ⟨Pd, St, D, s1, s2, s3⟩ := k.draws I hc g it h2
    have hlt : i < xs.length := (List.getElem?_eq_some_iff.mp hx).1
    have hel := lt_of_get he
    obtain ⟨oi, vi, hoi, _⟩ := hi.rec'
    have hil := lt_of_get hoi
    refine wpAny_pyNext_enum_itemD D he (s1 i hi) hlt hne (by simp [hne, h1]) fun u h' tk hP ho st' hT hsz hk => ?_
    obtain ⟨y, hy, ru⟩ := s3 i u hP
    obtain rfl : x = y := Option.some.inj (hx.symm.trans hy)
    refine ⟨_, rfl, wpAny_letOwnedTupleGo_enum (s := { s with heap := h', toks := tk + 1 }) ho fun h'' he' sb => ?_⟩
    have hT2 := (sb.2 s.heap.objs.size (Nat.ne_of_gt hel)).trans hT
    have new : ObjOk X.prog X.w (upd H s.heap.objs.size (HO.th (tob [.int i tk, u]) [.int (i : Nat), x])) h'' s.heap.objs.size (HO.th (tob [.int i tk, u]) [.int (i : Nat), x]) :=
      th_ok (by show 2 ≤ sizeLine; decide) (.cons ⟨_, rfl⟩ (.cons ru .nil)) hT2
    have I1 : Inv X pins σ (upd H s.heap.objs.size (HO.th (tob [.int i tk, u]) [.int (i : Nat), x])) { s with heap := h'', toks := tk + 1 } :=
      I.turnedNew (ch := [en, it]) (fun b ob hb q => by
        have n1 : b ≠ en := fun z => hb (by simp [z])
        have n2 : b ≠ it := fun z => hb (by simp [z])
        exact (sb.2 b n1).trans (hk b ob n1 n2 q)) hf (Nat.le_refl _) new
    refine ⟨.ref s.heap.objs.size, _, I1, rfl, ⟨_, _, x, rfl, I.hok.fresh (Nat.le_refl _), rfl, rfl, fun ys hy => by rw [k.gives_inj I hy g]; exact hx⟩, ⟨⟨u, ?_⟩, (s2 _ _ st').at fun o q => (sb.2 it (Ne.symm hne)).trans q⟩, fun b hb => ?_⟩
    · have e1 : ((i + 1 : Nat) : Int) = (i : Int) + 1 := by omega
      rw [e1]; exact he'
    · have hb' : b < s.heap.objs.size := by
        rcases List.mem_cons.mp hb with rfl | hb
        · exact hel
        · rw [List.mem_singleton.mp hb]; exact hil
      rw [upd_ne (Nat.ne_of_lt hb')]
      exact (hf b hb).1
  done := by
    rintro X rfl rfl rfl hc i pins s σ H E I hf ⟨⟨old, he⟩, hi⟩ ⟨xs, g, hl⟩
    obtain ⟨Pd, St, D, s1, s2, s3⟩ := k.draws I hc g it h2
    obtain ⟨f0, f1, f2, f3, f4, f5⟩ := hf it (by simp)
    subst hl
    exact wpAny_pyNext_enum_endD D he (s1 _ hi) fun h' eb => ⟨rfl, I.turned (t' := s.toks) (fun b o hb q => eb b o hb q) f0 f1 f3 f4 f5⟩
  self := fun A i s Q E ⟨⟨_, he⟩, _⟩ h => wpAny_pyIter_enum he h
theorem enum_meets1 {v : Value} {o : Obj} {Hs : Heap → Prop} (B : Begins v o Hs) :
    Meets (Builtin.«enumerate.__new__» ⟨[.type "enumerate", v], []⟩) (fun _ R s => Hs s.heap ∧
      R (.ok (.ret (.ref (s.heap.push o).objs.size))) { s with heap := (s.heap.push o).push { cls := .type "enumerate", data := .fields #[.none, .bool false, .ref s.heap.objs.size, rawInt 0, .none, .none] } }) :=
  .of_wp fun prog w A R s hh => by
    obtain ⟨hp, gn, dr, tk, os⟩ := s
    obtain ⟨hv, h⟩ := hh
    have hsub := sub_enumerate
    have itv : ∀ {A' : Around} {E : Value → Shared → Prop} {Q : Value → Shared → Prop}, Q (.ref hp.objs.size) ⟨hp.push o, gn, dr, tk, os⟩ → wpAny (model prog w) A' (pyIter v) Q E ⟨hp, gn, dr, tk, os⟩ :=
      fun q => B.iter prog w _ _ ⟨hp, gn, dr, tk, os⟩ _ hv q
    wp_walk using itv
    refine wpAny_stack_any fun fr => wpAny_pure ?_
    split
    · rename_i c0 _ _ _ _ _
      cases (c0 == Value.type "enumerate") <;> (wp_walk using itv; exact ⟨_, rfl, h⟩)
    · wp_walk using itv
      exact ⟨_, rfl, h⟩
section
variable {prog : Program} {w : World} {A : Around} {E : Value → Shared → Prop} {s : Shared}
theorem enum_one {v : Value} {o : Obj} {Hs : Heap → Prop} {Q : Value → Shared → Prop} (B : Begins v o Hs) (hv : Hs s.heap)
    (h : ∀ h', IsEnum h' (s.heap.objs.size + 1) s.heap.objs.size 0 .none → h'.get? s.heap.objs.size = some o → (∀ b ob, s.heap.get? b = some ob → h'.get? b = some ob) → Q (.ref (s.heap.objs.size + 1)) { s with heap := h' }) :
    wpAny (model prog w) A (call (.type "enumerate") [v]) Q E s := by
  refine callType_new F.called_enumerate (by decide) (F.typeCall_enumerate_1 _) (F.newCall_enumerate_1 _) (fun obj => F.args_object_init_2 obj _) F.entry_enumerate_new (enum_meets1 B) ⟨hv, ?_⟩
  have z1 : (s.heap.push o).objs.size = s.heap.objs.size + 1 := Heap.size_push ..
  have g1 := Heap.get?_push_size (s.heap.push o) (o := { cls := .type "enumerate", data := .fields #[.none, .bool false, .ref s.heap.objs.size, rawInt 0, .none, .none] }) rfl
  show _ ∧ _
  rw [z1] at g1 ⊢
  exact ⟨⟨_, g1, rfl⟩, h _ g1 (Heap.get?_push_of_some _ (Heap.get?_push_size _ B.free)) fun b ob e => Heap.get?_push_of_some _ (Heap.get?_push_of_some _ e)⟩
end
section
variable {X : Cx} {tg e e2 e3 : Expr} {elts : List Expr} {kk : Nat} {p pos tpos : Pos}
def iEnumS (K : PySem.W.Frag) (ta : TA) : TI := fun σ H R => ta σ H fun vs H1 => ∃ x xs C, vs = [x] ∧ Src K H1 x xs C ∧ ∀ k, C k → R (Iek K k) H1
theorem pi_enumS {ta : TA} (hg : Gl X "enumerate") (hm : X.mg "enumerate" = none) (ha : PA X [e] ta) (hs : starEach [e] X.env = [(false, eval e X.env)] := by rfl) : PI X (.Tuple elts kk tpos) (.Call (.Name "enumerate" p) [e] [] pos) (iEnumS X.K ta) := by
  refine ⟨fun pins s σ H R I h => ?_⟩
  refine Call_ (ld_blt I hg hm boot_enumerate (PyProof.Rows.callWith_type1 (thn (ha.run pos pins s σ H _ I h) fun us s1 ⟨vs, H1, I1, r1, x, xs, C, ev, sx, q⟩ => ?_) hs rfl))
  subst ev
  obtain ⟨u, rfl, ru⟩ := vals1 r1
  obtain ⟨k, hk, rfl, g⟩ := sx.kd ru
  obtain ⟨Hs, B, hst, hlt⟩ := k.begins I1 g
  refine enum_one B hst fun h' he hit kp => wpAny_pyIter_enum he ?_
  have old : ∀ b ∈ k.ad, b ≠ s1.heap.objs.size ∧ b ≠ s1.heap.objs.size + 1 := fun b hb => by
    have z : (b : Nat) < s1.heap.objs.size := hlt b hb
    exact ⟨Nat.ne_of_lt z, Nat.ne_of_lt (Nat.lt_succ_of_lt z)⟩
  refine ⟨s1.heap.objs.size + 1, [s1.heap.objs.size + 1, s1.heap.objs.size], _, _, H1, rfl, I1.kept (t' := s1.toks) kp, turn_ek k (Nat.succ_ne_self _) (fun hm => (old _ hm).2 rfl) (fun hm => (old _ hm).1 rfl), ⟨⟨.none, he⟩, Kd.start hit⟩, fun b hb => ?_, q k hk⟩
  have hle : s1.heap.objs.size ≤ b := by
    rcases List.mem_cons.mp hb with z | z
    · rw [z]; exact Nat.le_succ _
    · rw [List.mem_singleton.mp z]; exact Nat.le_refl _
  exact I1.fpOk hle (I1.hok.fresh hle)
end
end VL
set_option Elab.async false
set_option linter.all false
set_option maxRecDepth 100000
set_option maxHeartbeats 4000000
namespace VL
open PySem PySem.Spec PyProof.Rows L2
/-! ### zip of two, of three sources -/
def Iz2 (K : PySem.W.Frag) (k1 k2 : Kd) : It :=
  ⟨fun i H => ∃ xs ys x y, k1.gives K H xs ∧ k2.gives K H ys ∧ xs[i]? = some x ∧ ys[i]? = some y,
    fun i H v H' => ∃ T o x y, v = .ref T ∧ H T = none ∧ o.dict = none ∧ H' = upd H T (HO.th o [x, y]) ∧ (∀ xs, k1.gives K H xs → xs[i]? = some x) ∧ ∀ ys, k2.gives K H ys → ys[i]? = some y,
    fun i H => ∃ xs ys, k1.gives K H xs ∧ k2.gives K H ys ∧ i ≤ xs.length ∧ i ≤ ys.length ∧ (i = xs.length ∨ i = ys.length)⟩
/-- the addresses of a zip's own objects -/
structure Zp2 (k1 k2 : Kd) (z TI TO i1 i2 : Addr) : Prop where
  sep : ZipSep2 z TI TO i1 i2 (i1 :: k1.ad) (i2 :: k2.ad)
  n1 : i1 ∉ k1.ad
  n2 : i2 ∉ k2.ad
theorem turn_z2 {P : Program} {w : World} {K : PySem.W.Frag} {elts : List Expr} {kk : Nat} {tpos : Pos} (k1 k2 : Kd) {z TI TO i1 i2 : Addr} (S : Zp2 k1 k2 z TI TO i1 i2) :
    Turn P w K (.Tuple elts kk tpos) (Iz2 K k1 k2) [z, TI, TO, i1, i2] z (fun i h => IsZip h z TI TO .none ∧ IsTupOf2 h TI (.ref i1) (.ref i2) ∧ (∃ x y, IsTupOf2 h TO x y) ∧ k1.At i1 i h ∧ k2.At i2 i h) where
  mem := List.mem_cons_self
  obj := fun i h ⟨hz, hI, ⟨x, y, hO⟩, a1, a2⟩ b hb => by
    obtain ⟨o1, v1, e1, d1⟩ := a1.rec'
    obtain ⟨o2, v2, e2, d2⟩ := a2.rec'
    simp only [List.mem_cons, List.not_mem_nil, or_false] at hb
    rcases hb with rfl | rfl | rfl | rfl | rfl
    · exact ⟨_, hz, nofun⟩
    · exact ⟨_, hI, nofun⟩
    · exact ⟨_, hO, nofun⟩
    · exact ⟨o1, e1, fun v q => by rw [d1] at q; cases q⟩
    · exact ⟨o2, e2, fun v q => by rw [d2] at q; cases q⟩
  keep := fun i h h' ⟨hz, hI, ⟨x, y, hO⟩, a1, a2⟩ kp => ⟨kp z (by simp) _ hz, kp TI (by simp) _ hI, ⟨x, y, kp TO (by simp) _ hO⟩, a1.at fun o => kp i1 (by simp) o, a2.at fun o => kp i2 (by simp) o⟩
  item := by
    rintro X rfl rfl rfl hc i pins s σ H E I hf ⟨hz, hI, ⟨x0, y0, hO⟩, a1, a2⟩ ⟨xs, ys, x, y, g1, g2, hx, hy⟩
    obtain ⟨P1, S1, D1, in1, out1, at1⟩ := k1.draws I hc g1 i1 S.n1
    obtain ⟨P2, S2, D2, in2, out2, at2⟩ := k2.draws I hc g2 i2 S.n2
    have hl1 : i < xs.length := (List.getElem?_eq_some_iff.mp hx).1
    have hl2 : i < ys.length := (List.getElem?_eq_some_iff.mp hy).1
    obtain ⟨o1, v1, e1, d1⟩ := a1.rec'
    obtain ⟨o2, v2, e2, d2⟩ := a2.rec'
    have zl := lt_of_get hz
    have zlt : ∀ c ∈ [z, TI, TO, i1, i2], c < s.heap.objs.size := fun c hc => by
      simp only [List.mem_cons, List.not_mem_nil, or_false] at hc
      rcases hc with rfl | rfl | rfl | rfl | rfl
      · exact zl
      · exact lt_of_get hI
      · exact lt_of_get hO
      · exact lt_of_get e1
      · exact lt_of_get e2
    refine wpAny_pyNext_zipD2_item S.sep D1 D2 hz hI hO (in1 i a1) (in2 i a2) hl1 hl2 fun u1 u2 h' tk p1 p2 hz' hO' st1 st2 hT hsz hk => ?_
    obtain ⟨y1, q1, r1⟩ := at1 i u1 p1
    obtain ⟨y2, q2, r2⟩ := at2 i u2 p2
    obtain rfl : x = y1 := Option.some.inj (hx.symm.trans q1)
    obtain rfl : y = y2 := Option.some.inj (hy.symm.trans q2)
    refine ⟨_, rfl, wpAny_letOwnedTupleGo_zip (s := { s with heap := h', toks := tk }) hz' fun h'' hz'' sb => ?_⟩
    have hT2 := (sb.2 s.heap.objs.size (Nat.ne_of_gt zl)).trans hT
    have I1 : Inv X pins σ (upd H s.heap.objs.size (HO.th (tob [u1, u2]) [x, y])) { s with heap := h'', toks := tk } :=
      I.turnedNew (ch := [z, TI, TO, i1, i2]) (fun c o hb q => by
        simp only [List.mem_cons, List.not_mem_nil, or_false, not_or] at hb
        obtain ⟨n1, n2, n3, n4, n5⟩ := hb
        exact (sb.2 c n1).trans (hk c o n1 n3 n4 n5 q)) hf (Nat.le_refl _) (th_ok (by show 2 ≤ sizeLine; decide) (.cons r1 (.cons r2 .nil)) hT2)
    refine ⟨.ref s.heap.objs.size, _, I1, rfl, ⟨_, _, x, y, rfl, I.hok.fresh (Nat.le_refl _), rfl, rfl, fun l hl => by rw [k1.gives_inj I hl g1]; exact hx, fun l hl => by rw [k2.gives_inj I hl g2]; exact hy⟩, ⟨hz'', ?_, ⟨u1, u2, ?_⟩, (out1 _ _ st1).at fun o q => ?_, (out2 _ _ st2).at fun o q => ?_⟩, fun c hc => ?_⟩
    · exact (sb.2 _ S.sep.TIz).trans (hk _ _ S.sep.TIz S.sep.TITO S.sep.TIi1 S.sep.TIi2 hI)
    · exact (sb.2 _ S.sep.TOz).trans hO'
    · exact (sb.2 i1 (fun e => S.sep.zi1 e.symm)).trans q
    · exact (sb.2 i2 (fun e => S.sep.zi2 e.symm)).trans q
    · rw [upd_ne (Nat.ne_of_lt (zlt c hc))]
      exact (hf c hc).1
  done := by
    rintro X rfl rfl rfl hc i pins s σ H E I hf ⟨hz, hI, ⟨x0, y0, hO⟩, a1, a2⟩ ⟨xs, ys, g1, g2, hl1, hl2, hend⟩
    obtain ⟨P1, S1, D1, in1, out1, at1⟩ := k1.draws I hc g1 i1 S.n1
    obtain ⟨P2, S2, D2, in2, out2, at2⟩ := k2.draws I hc g2 i2 S.n2
    exact wpAny_pyNext_zipD2_end S.sep D1 D2 hz hI hO (in1 i a1) (in2 i a2) hl1 hl2 hend fun h' tk hk => ⟨rfl, I.turnedL (t' := tk) (ch := [z, TI, TO, i1, i2]) (fun c o hb q => by
      simp only [List.mem_cons, List.not_mem_nil, or_false, not_or] at hb
      obtain ⟨n1, n2, n3, n4, n5⟩ := hb
      exact hk c o n1 n3 n4 n5 q) hf⟩
  self := fun A i s Q E ⟨hz, _⟩ h => wpAny_pyIter_zip hz h
def Iz3 (K : PySem.W.Frag) (k1 k2 k3 : Kd) : It :=
  ⟨fun i H => ∃ xs ys zs x y u, k1.gives K H xs ∧ k2.gives K H ys ∧ k3.gives K H zs ∧ xs[i]? = some x ∧ ys[i]? = some y ∧ zs[i]? = some u,
    fun i H v H' => ∃ T o x y u, v = .ref T ∧ H T = none ∧ o.dict = none ∧ H' = upd H T (HO.th o [x, y, u]) ∧ (∀ xs, k1.gives K H xs → xs[i]? = some x) ∧ (∀ ys, k2.gives K H ys → ys[i]? = some y) ∧ ∀ zs, k3.gives K H zs → zs[i]? = some u,
    fun i H => ∃ xs ys zs, k1.gives K H xs ∧ k2.gives K H ys ∧ k3.gives K H zs ∧ i ≤ xs.length ∧ i ≤ ys.length ∧ i ≤ zs.length ∧ (i = xs.length ∨ i = ys.length ∨ i = zs.length)⟩
structure Zp3 (k1 k2 k3 : Kd) (z TI TO i1 i2 i3 : Addr) : Prop where
  sep : ZipSep3 z TI TO i1 i2 i3 (i1 :: k1.ad) (i2 :: k2.ad) (i3 :: k3.ad)
  n1 : i1 ∉ k1.ad
  n2 : i2 ∉ k2.ad
  n3 : i3 ∉ k3.ad
theorem turn_z3 {P : Program} {w : World} {K : PySem.W.Frag} {elts : List Expr} {kk : Nat} {tpos : Pos} (k1 k2 k3 : Kd) {z TI TO i1 i2 i3 : Addr} (S : Zp3 k1 k2 k3 z TI TO i1 i2 i3) :
    Turn P w K (.Tuple elts kk tpos) (Iz3 K k1 k2 k3) [z, TI, TO, i1, i2, i3] z (fun i h => IsZip h z TI TO .none ∧ IsTupOf3 h TI (.ref i1) (.ref i2) (.ref i3) ∧ (∃ x y u, IsTupOf3 h TO x y u) ∧ k1.At i1 i h ∧ k2.At i2 i h ∧ k3.At i3 i h) where
  mem := List.mem_cons_self
  obj := fun i h ⟨hz, hI, ⟨x, y, u, hO⟩, a1, a2, a3⟩ b hb => by
    obtain ⟨o1, v1, e1, d1⟩ := a1.rec'
    obtain ⟨o2, v2, e2, d2⟩ := a2.rec'
    obtain ⟨o3, v3, e3, d3⟩ := a3.rec'
    simp only [List.mem_cons, List.not_mem_nil, or_false] at hb
    rcases hb with rfl | rfl | rfl | rfl | rfl | rfl
    · exact ⟨_, hz, nofun⟩
    · exact ⟨_, hI, nofun⟩
    · exact ⟨_, hO, nofun⟩
    · exact ⟨o1, e1, fun v q => by rw [d1] at q; cases q⟩
    · exact ⟨o2, e2, fun v q => by rw [d2] at q; cases q⟩
    · exact ⟨o3, e3, fun v q => by rw [d3] at q; cases q⟩
  keep := fun i h h' ⟨hz, hI, ⟨x, y, u, hO⟩, a1, a2, a3⟩ kp => ⟨kp z (by simp) _ hz, kp TI (by simp) _ hI, ⟨x, y, u, kp TO (by simp) _ hO⟩, a1.at fun o => kp i1 (by simp) o, a2.at fun o => kp i2 (by simp) o, a3.at fun o => kp i3 (by simp) o⟩
  item := by
    rintro X rfl rfl rfl hc i pins s σ H E I hf ⟨hz, hI, ⟨x0, y0, u0, hO⟩, a1, a2, a3⟩ ⟨xs, ys, zs, x, y, u, g1, g2, g3, hx, hy, hu⟩
    obtain ⟨P1, S1, D1, in1, out1, at1⟩ := k1.draws I hc g1 i1 S.n1
    obtain ⟨P2, S2, D2, in2, out2, at2⟩ := k2.draws I hc g2 i2 S.n2
    obtain ⟨P3, S3, D3, in3, out3, at3⟩ := k3.draws I hc g3 i3 S.n3
    have hl1 : i < xs.length := (List.getElem?_eq_some_iff.mp hx).1
    have hl2 : i < ys.length := (List.getElem?_eq_some_iff.mp hy).1
    have hl3 : i < zs.length := (List.getElem?_eq_some_iff.mp hu).1
    obtain ⟨o1, v1, e1, d1⟩ := a1.rec'
    obtain ⟨o2, v2, e2, d2⟩ := a2.rec'
    obtain ⟨o3, v3, e3, d3⟩ := a3.rec'
    have zl := lt_of_get hz
    have zlt : ∀ c ∈ [z, TI, TO, i1, i2, i3], c < s.heap.objs.size := fun c hc => by
      simp only [List.mem_cons, List.not_mem_nil, or_false] at hc
      rcases hc with rfl | rfl | rfl | rfl | rfl | rfl
      · exact zl
      · exact lt_of_get hI
      · exact lt_of_get hO
      · exact lt_of_get e1
      · exact lt_of_get e2
      · exact lt_of_get e3
    refine wpAny_pyNext_zipD3_item S.sep D1 D2 D3 hz hI hO (in1 i a1) (in2 i a2) (in3 i a3) hl1 hl2 hl3 fun u1 u2 u3 h' tk p1 p2 p3 hz' hO' st1 st2 st3 hT hsz hk => ?_
    obtain ⟨y1, q1, r1⟩ := at1 i u1 p1
    obtain ⟨y2, q2, r2⟩ := at2 i u2 p2
    obtain ⟨y3, q3, r3⟩ := at3 i u3 p3
    obtain rfl : x = y1 := Option.some.inj (hx.symm.trans q1)
    obtain rfl : y = y2 := Option.some.inj (hy.symm.trans q2)
    obtain rfl : u = y3 := Option.some.inj (hu.symm.trans q3)
    refine ⟨_, rfl, wpAny_letOwnedTupleGo_zip (s := { s with heap := h', toks := tk }) hz' fun h'' hz'' sb => ?_⟩
    have hT2 := (sb.2 s.heap.objs.size (Nat.ne_of_gt zl)).trans hT
    have I1 : Inv X pins σ (upd H s.heap.objs.size (HO.th (tob [u1, u2, u3]) [x, y, u])) { s with heap := h'', toks := tk } :=
      I.turnedNew (ch := [z, TI, TO, i1, i2, i3]) (fun c o hb q => by
        simp only [List.mem_cons, List.not_mem_nil, or_false, not_or] at hb
        obtain ⟨n1, n2, n3, n4, n5, n6⟩ := hb
        exact (sb.2 c n1).trans (hk c o n1 n3 n4 n5 n6 q)) hf (Nat.le_refl _) (th_ok (by show 3 ≤ sizeLine; decide) (.cons r1 (.cons r2 (.cons r3 .nil))) hT2)
    refine ⟨.ref s.heap.objs.size, _, I1, rfl, ⟨_, _, x, y, u, rfl, I.hok.fresh (Nat.le_refl _), rfl, rfl, fun l hl => by rw [k1.gives_inj I hl g1]; exact hx, fun l hl => by rw [k2.gives_inj I hl g2]; exact hy, fun l hl => by rw [k3.gives_inj I hl g3]; exact hu⟩,
      ⟨hz'', ?_, ⟨u1, u2, u3, ?_⟩, (out1 _ _ st1).at fun o q => ?_, (out2 _ _ st2).at fun o q => ?_, (out3 _ _ st3).at fun o q => ?_⟩, fun c hc => ?_⟩
    · exact (sb.2 _ S.sep.TIz).trans (hk _ _ S.sep.TIz S.sep.TITO S.sep.TIi1 S.sep.TIi2 S.sep.TIi3 hI)
    · exact (sb.2 _ S.sep.TOz).trans hO'
    · exact (sb.2 i1 (fun e => S.sep.zi1 e.symm)).trans q
    · exact (sb.2 i2 (fun e => S.sep.zi2 e.symm)).trans q
    · exact (sb.2 i3 (fun e => S.sep.zi3 e.symm)).trans q
    · rw [upd_ne (Nat.ne_of_lt (zlt c hc))]
      exact (hf c hc).1
  done := by
    rintro X rfl rfl rfl hc i pins s σ H E I hf ⟨hz, hI, ⟨x0, y0, u0, hO⟩, a1, a2, a3⟩ ⟨xs, ys, zs, g1, g2, g3, hl1, hl2, hl3, hend⟩
    obtain ⟨P1, S1, D1, in1, out1, at1⟩ := k1.draws I hc g1 i1 S.n1
    obtain ⟨P2, S2, D2, in2, out2, at2⟩ := k2.draws I hc g2 i2 S.n2
    obtain ⟨P3, S3, D3, in3, out3, at3⟩ := k3.draws I hc g3 i3 S.n3
    exact wpAny_pyNext_zipD3_end S.sep D1 D2 D3 hz hI hO (in1 i a1) (in2 i a2) (in3 i a3) hl1 hl2 hl3 hend fun h' tk hk => ⟨rfl, I.turnedL (t' := tk) (ch := [z, TI, TO, i1, i2, i3]) (fun c o hb q => by
      simp only [List.mem_cons, List.not_mem_nil, or_false, not_or] at hb
      obtain ⟨n1, n2, n3, n4, n5, n6⟩ := hb
      exact hk c o n1 n3 n4 n5 n6 q) hf⟩
  self := fun A i s Q E ⟨hz, _⟩ h => wpAny_pyIter_zip hz h
section
variable {X : Cx} {tg e e2 e3 : Expr} {elts : List Expr} {kk : Nat} {p pos tpos : Pos}
theorem vals2 {a b : V} {us : List Value} (h : Vals [a, b] us) : ∃ u v, us = [u, v] ∧ RelV a u ∧ RelV b v := by
  cases h with
  | cons r t => cases t with
    | cons r2 t => cases t; exact ⟨_, _, rfl, r, r2⟩
theorem vals3 {a b c : V} {us : List Value} (h : Vals [a, b, c] us) : ∃ u v w, us = [u, v, w] ∧ RelV a u ∧ RelV b v ∧ RelV c w := by
  cases h with
  | cons r t => obtain ⟨v, w, rfl, r2, r3⟩ := vals2 t; exact ⟨_, _, _, rfl, r, r2, r3⟩
def iZip2 (K : PySem.W.Frag) (ta : TA) : TI := fun σ H R => ta σ H fun vs H1 => ∃ x y xs ys C1 C2, vs = [x, y] ∧ Src K H1 x xs C1 ∧ Src K H1 y ys C2 ∧ ∀ k1 k2, C1 k1 → C2 k2 → R (Iz2 K k1 k2) H1
theorem pi_zip2 {ta : TA} (hg : Gl X "zip") (hm : X.mg "zip" = none) (ha : PA X [e, e2] ta) (hs : starEach [e, e2] X.env = (false, eval e X.env) :: starEach [e2] X.env := by rfl) (hpl : (backTo pos (starEach [e2] X.env)).any (·.1) = false := by rfl) :
    PI X (.Tuple elts kk tpos) (.Call (.Name "zip" p) [e, e2] [] pos) (iZip2 X.K ta) := by
  refine ⟨fun pins s σ H R I h => ?_⟩
  refine Call_ (ld_blt I hg hm PyProof.Rows.boot_zip (PyProof.Rows.callWith_type1 (thn (ha.run pos pins s σ H _ I h) fun us s1 ⟨vs, H1, I1, r1, x, y, xs, ys, C1, C2, ev, sx, sy, q⟩ => ?_) hs hpl))
  subst ev
  obtain ⟨u, v, rfl, ru, rv⟩ := vals2 r1
  obtain ⟨k1, h1, rfl, g1⟩ := sx.kd ru
  obtain ⟨k2, h2, rfl, g2⟩ := sy.kd rv
  obtain ⟨Hs1, B1, hs1, lt1⟩ := k1.begins I1 g1
  obtain ⟨Hs2, B2, hs2, lt2⟩ := k2.begins I1 g2
  refine zip_begins2 B1 B2 hs1 hs2 fun h' hz hI hO e1 e2 hsz kp => wpAny_pyIter_zip hz ?_
  have no : ∀ {k : Kd} (j : Nat), (∀ b ∈ k.ad, b < s1.heap.objs.size) → (s1.heap.objs.size + j) ∉ k.ad := fun j hl hm => by
    have z : (s1.heap.objs.size + j : Nat) < s1.heap.objs.size := hl _ hm
    omega
  refine ⟨s1.heap.objs.size + 4, [s1.heap.objs.size + 4, s1.heap.objs.size + 2, s1.heap.objs.size + 3, s1.heap.objs.size, s1.heap.objs.size + 1], _, _, H1, rfl, I1.kept (t' := s1.toks) kp, turn_z2 k1 k2 ⟨zip_sep2 lt1 lt2, no 0 lt1, no 1 lt2⟩, ⟨hz, hI, ⟨_, _, hO⟩, Kd.start e1, Kd.start e2⟩, fun b hb => ?_, q k1 k2 h1 h2⟩
  have hle : s1.heap.objs.size ≤ b := by
    simp only [List.mem_cons, List.not_mem_nil, or_false] at hb
    rcases hb with z | z | z | z | z <;> (rw [z]; first | exact Nat.le_refl _ | exact Nat.le_add_right _ _)
  exact I1.fpOk hle (I1.hok.fresh hle)
def iZip3 (K : PySem.W.Frag) (ta : TA) : TI := fun σ H R => ta σ H fun vs H1 => ∃ x y z xs ys zs C1 C2 C3, vs = [x, y, z] ∧ Src K H1 x xs C1 ∧ Src K H1 y ys C2 ∧ Src K H1 z zs C3 ∧ ∀ k1 k2 k3, C1 k1 → C2 k2 → C3 k3 → R (Iz3 K k1 k2 k3) H1
theorem pi_zip3 {ta : TA} (hg : Gl X "zip") (hm : X.mg "zip" = none) (ha : PA X [e, e2, e3] ta) (hs : starEach [e, e2, e3] X.env = (false, eval e X.env) :: starEach [e2, e3] X.env := by rfl) (hpl : (backTo pos (starEach [e2, e3] X.env)).any (·.1) = false := by rfl) :
    PI X (.Tuple elts kk tpos) (.Call (.Name "zip" p) [e, e2, e3] [] pos) (iZip3 X.K ta) := by
  refine ⟨fun pins s σ H R I h => ?_⟩
  refine Call_ (ld_blt I hg hm PyProof.Rows.boot_zip (PyProof.Rows.callWith_type1 (thn (ha.run pos pins s σ H _ I h) fun us s1 ⟨vs, H1, I1, r1, x, y, z, xs, ys, zs, C1, C2, C3, ev, sx, sy, sz, q⟩ => ?_) hs hpl))
  subst ev
  obtain ⟨u, v, w, rfl, ru, rv, rw⟩ := vals3 r1
  obtain ⟨k1, h1, rfl, g1⟩ := sx.kd ru
  obtain ⟨k2, h2, rfl, g2⟩ := sy.kd rv
  obtain ⟨k3, h3, rfl, g3⟩ := sz.kd rw
  obtain ⟨Hs1, B1, hs1, lt1⟩ := k1.begins I1 g1
  obtain ⟨Hs2, B2, hs2, lt2⟩ := k2.begins I1 g2
  obtain ⟨Hs3, B3, hs3, lt3⟩ := k3.begins I1 g3
  refine zip_begins3 B1 B2 B3 hs1 hs2 hs3 fun h' hz hI hO e1 e2 e3 hsz kp => wpAny_pyIter_zip hz ?_
  have no : ∀ {k : Kd} (j : Nat), (∀ b ∈ k.ad, b < s1.heap.objs.size) → (s1.heap.objs.size + j) ∉ k.ad := fun j hl hm => by
    have z : (s1.heap.objs.size + j : Nat) < s1.heap.objs.size := hl _ hm
    omega
  refine ⟨s1.heap.objs.size + 5, [s1.heap.objs.size + 5, s1.heap.objs.size + 3, s1.heap.objs.size + 4, s1.heap.objs.size, s1.heap.objs.size + 1, s1.heap.objs.size + 2], _, _, H1, rfl, I1.kept (t' := s1.toks) kp, turn_z3 k1 k2 k3 ⟨zip_sep3 lt1 lt2 lt3, no 0 lt1, no 1 lt2, no 2 lt3⟩, ⟨hz, hI, ⟨_, _, _, hO⟩, Kd.start e1, Kd.start e2, Kd.start e3⟩, fun b hb => ?_, q k1 k2 k3 h1 h2 h3⟩
  have hle : s1.heap.objs.size ≤ b := by
    simp only [List.mem_cons, List.not_mem_nil, or_false] at hb
    rcases hb with z | z | z | z | z | z <;> (rw [z]; first | exact Nat.le_refl _ | exact Nat.le_add_right _ _)
  exact I1.fpOk hle (I1.hok.fresh hle)
end
end VL
set_option Elab.async false
set_option linter.all false
set_option maxRecDepth 100000
set_option maxHeartbeats 4000000
namespace VL
open PySem PySem.Spec PyProof.Rows L2
/-! ### the items of plain data -/
def signsD (x : Str) : List PyData := x.cps.toList.map fun c => PyData.str (mkS [c])
@[simp] def itemsOf : PyData → Option (List PyData)
  | .list xs => some xs
  | .tuple xs => some xs
  | .str x => some (signsD x)
  | _ => none
def enumP (xs : List PyData) : List PyData := xs.zipIdx.map fun p => .tuple [.int (p.2 : Nat), p.1]
def zip2P (xs ys : List PyData) : List PyData := (xs.zip ys).map fun p => .tuple [p.1, p.2]
def zip3P (xs ys zs : List PyData) : List PyData := (xs.zip (ys.zip zs)).map fun p => .tuple [p.1, p.2.1, p.2.2]
def rangeP (i : Int) (n : Nat) : List PyData := (List.range n).map fun k => .int (i + (k : Nat))
theorem enumP_get {xs : List PyData} {k : Nat} {d : PyData} (h : (enumP xs)[k]? = some d) : ∃ x, xs[k]? = some x ∧ d = .tuple [.int (k : Nat), x] := by
  unfold enumP at h
  rw [List.getElem?_map, List.getElem?_zipIdx] at h
  cases e : xs[k]? with
  | none => rw [e] at h; cases h
  | some x => rw [e] at h; cases h; exact ⟨x, rfl, by simp⟩
theorem zip2P_get {xs ys : List PyData} {k : Nat} {d : PyData} (h : (zip2P xs ys)[k]? = some d) : ∃ x y, xs[k]? = some x ∧ ys[k]? = some y ∧ d = .tuple [x, y] := by
  unfold zip2P at h
  rw [List.getElem?_map] at h
  cases e : (xs.zip ys)[k]? with
  | none => rw [e] at h; cases h
  | some x =>
    rw [e] at h; cases h
    rw [List.getElem?_zip_eq_some] at e
    exact ⟨x.1, x.2, e.1, e.2, rfl⟩
theorem zip3P_get {xs ys zs : List PyData} {k : Nat} {d : PyData} (h : (zip3P xs ys zs)[k]? = some d) : ∃ x y u, xs[k]? = some x ∧ ys[k]? = some y ∧ zs[k]? = some u ∧ d = .tuple [x, y, u] := by
  unfold zip3P at h
  rw [List.getElem?_map] at h
  cases e : (xs.zip (ys.zip zs))[k]? with
  | none => rw [e] at h; cases h
  | some x =>
    rw [e] at h; cases h
    rw [List.getElem?_zip_eq_some, List.getElem?_zip_eq_some] at e
    exact ⟨x.1, x.2.1, x.2.2, e.1, e.2.1, e.2.2, rfl⟩
theorem rangeP_get {i : Int} {n k : Nat} {d : PyData} (h : (rangeP i n)[k]? = some d) : k < n ∧ d = .int (i + (k : Nat)) := by
  unfold rangeP at h
  rw [List.getElem?_map] at h
  by_cases hk : k < n
  · rw [List.getElem?_range hk] at h; cases h; exact ⟨hk, rfl⟩
  · rw [List.getElem?_eq_none (by simp; omega)] at h; cases h
/-! ### the walks, over data -/
section
variable {b : Bg} {Y Z : Addr → Prop} {H : Hp} {K : PySem.W.Frag}
theorem rqs_signs {x : Str} : Rqs Z H (signs x) (signsD x) := by
  unfold signs signsD
  induction x.cps.toList with
  | nil => exact .nil
  | cons c l ih => exact .cons (.str _) ih
/-- a source: what stands there, and stays -/
structure SrcD (K : PySem.W.Frag) (Y Z : Addr → Prop) (H : Hp) (v : V) (xs : List PyData) (vs : List V) (C : Kd → Prop) : Prop where
  src : Src K H v vs C
  rq : Rqs Z H vs xs
  stay : ∀ k, C k → ∀ H2 : Hp, (∀ a o, H a = some o → ¬ Y a → H2 a = some o) → k.gives K H2 vs
theorem srcD {v : V} {p : PyData} {xs : List PyData} (r : Rb b Z H v (.py p)) (hn : ∀ a, v = .ref a → ¬ Y a) (e : itemsOf p = some xs) : ∃ vs C, SrcD K Y Z H v xs vs C := by
  cases p with
  | list ds =>
    cases e
    obtain ⟨a, us, rfl, ha, q⟩ := r.list
    exact ⟨us, _, .l (SqL.of ha), q, fun k hk H2 h2 => by rw [hk]; exact SqL.of (h2 a _ ha (hn a rfl))⟩
  | tuple ds =>
    cases e
    obtain ⟨a, o, us, rfl, ha, ho, na, q⟩ := r.tuple
    exact ⟨us, _, .t (SqT.th ha), q, fun k hk H2 h2 => by rw [hk]; exact SqT.th (h2 a _ ha (hn a rfl))⟩
  | str x =>
    cases e
    have ev := r.str
    subst ev
    exact ⟨signs x, _, .s, rqs_signs, fun k hk H2 h2 => by obtain ⟨t, rfl⟩ := hk; rfl⟩
  | _ => cases e
/-- what a source has at k -/
theorem SrcD.at {v : V} {xs : List PyData} {vs : List V} {C : Kd → Prop} (s : SrcD K Y Z H v xs vs C) (hY : ∀ a, ¬ Z a → ¬ Y a) {k : Nat} {d : PyData} (h : xs[k]? = some d) {H2 : Hp} (h2 : ∀ a o, H a = some o → ¬ Y a → H2 a = some o) :
    ∃ x, vs[k]? = some x ∧ ∀ Z2 : Addr → Prop, (∀ a, Z2 a → Z a ∨ H a = none) → Rq Z2 H2 x d := by
  obtain ⟨x, hx, r⟩ := s.rq.get h
  exact ⟨x, hx, fun Z2 hz => r.mono hz fun a o e n => h2 a o e (hY a n)⟩
theorem Rq.new2 {Z2 : Addr → Prop} {H2 : Hp} {T : Addr} {o : Obj} {vs : List V} {ds : List PyData} (hT : H2 T = none) (ho : o.dict = none) (hz : ∀ a, Z2 a → H2 a ≠ none) (r : Rqs Z2 H2 vs ds) : Rq Z2 (upd H2 T (HO.th o vs)) (.ref T) (.tuple ds) :=
  .tup upd_same ho (fun z => hz T z hT) (r.up hT)
theorem wk_src {v : V} {xs : List PyData} {vs : List V} {C : Kd → Prop} (s : SrcD K Y Z H v xs vs C) (hY : ∀ a, ¬ Z a → ¬ Y a) {k : Kd} (hk : C k) : Wk b Y Z H (Itk K k) (xs.map D.py) where
  go := fun i d H2 hd h2 g => by
    rw [List.getElem?_map] at hd
    cases e : xs[i]? with
    | none => rw [e] at hd; cases hd
    | some p =>
      rw [e] at hd; cases hd
      obtain ⟨x, hx, r⟩ := s.at hY e h2
      have gv := s.stay k hk H2 h2
      refine ⟨⟨vs, x, gv, hx⟩, fun v H3 y => ?_⟩
      obtain ⟨eH, y⟩ := y
      subst eH
      have : x = v := Option.some.inj (hx.symm.trans (y vs gv))
      subst this
      exact ⟨Ex.refl, g, fun Z2 hz _ => r Z2 hz⟩
  stop := fun i H2 hl h2 => ⟨vs, s.stay k hk H2 h2, by rw [s.rq.length, ← hl, List.length_map]; exact Nat.le_refl _⟩
theorem wk_enum {v : V} {xs : List PyData} {vs : List V} {C : Kd → Prop} (s : SrcD K Y Z H v xs vs C) (hY : ∀ a, ¬ Z a → ¬ Y a) {k : Kd} (hk : C k) : Wk b Y Z H (Iek K k) ((enumP xs).map D.py) where
  go := fun i d H2 hd h2 g => by
    rw [List.getElem?_map] at hd
    cases e : (enumP xs)[i]? with
    | none => rw [e] at hd; cases hd
    | some p =>
      rw [e] at hd; cases hd
      obtain ⟨q, hq, rfl⟩ := enumP_get e
      obtain ⟨x, hx, r⟩ := s.at hY hq h2
      have gv := s.stay k hk H2 h2
      refine ⟨⟨vs, x, gv, hx⟩, fun v H3 y => ?_⟩
      obtain ⟨T, o, x', rfl, hT, ho, eH, y⟩ := y
      subst eH
      have : x = x' := Option.some.inj (hx.symm.trans (y vs gv))
      subst this
      exact ⟨Ex.new hT, Bg.new g hT, fun Z2 hz h3 => Rq.new2 hT ho h3 (.cons (.int _) (.cons (r Z2 hz) .nil))⟩
  stop := fun i H2 hl h2 => ⟨vs, s.stay k hk H2 h2, by rw [s.rq.length, ← hl]; simp [enumP]⟩
theorem wk_zip2 {v w : V} {xs ys : List PyData} {vs ws : List V} {C1 C2 : Kd → Prop} (s : SrcD K Y Z H v xs vs C1) (t : SrcD K Y Z H w ys ws C2) (hY : ∀ a, ¬ Z a → ¬ Y a) {k1 k2 : Kd} (h1 : C1 k1) (hk2 : C2 k2) : Wk b Y Z H (Iz2 K k1 k2) ((zip2P xs ys).map D.py) where
  go := fun i d H2 hd h2 g => by
    rw [List.getElem?_map] at hd
    cases e : (zip2P xs ys)[i]? with
    | none => rw [e] at hd; cases hd
    | some p =>
      rw [e] at hd; cases hd
      obtain ⟨q, q', hq, hq', rfl⟩ := zip2P_get e
      obtain ⟨x, hx, r⟩ := s.at hY hq h2
      obtain ⟨u, hu, r'⟩ := t.at hY hq' h2
      have gv := s.stay k1 h1 H2 h2
      have gu := t.stay k2 hk2 H2 h2
      refine ⟨⟨vs, ws, x, u, gv, gu, hx, hu⟩, fun v H3 y => ?_⟩
      obtain ⟨T, o, x', u', rfl, hT, ho, eH, y1, y2⟩ := y
      subst eH
      have : x = x' := Option.some.inj (hx.symm.trans (y1 vs gv))
      subst this
      have : u = u' := Option.some.inj (hu.symm.trans (y2 ws gu))
      subst this
      exact ⟨Ex.new hT, Bg.new g hT, fun Z2 hz h3 => Rq.new2 hT ho h3 (.cons (r Z2 hz) (.cons (r' Z2 hz) .nil))⟩
  stop := fun i H2 hl h2 => by
    have e : min xs.length ys.length = i := by rw [← hl]; simp [zip2P]
    refine ⟨vs, ws, s.stay k1 h1 H2 h2, t.stay k2 hk2 H2 h2, ?_⟩
    rw [s.rq.length, t.rq.length]
    omega
theorem wk_zip3 {v w z : V} {xs ys zs : List PyData} {vs ws us : List V} {C1 C2 C3 : Kd → Prop} (s : SrcD K Y Z H v xs vs C1) (t : SrcD K Y Z H w ys ws C2) (m : SrcD K Y Z H z zs us C3) (hY : ∀ a, ¬ Z a → ¬ Y a) {k1 k2 k3 : Kd} (h1 : C1 k1) (hk2 : C2 k2) (hk3 : C3 k3) : Wk b Y Z H (Iz3 K k1 k2 k3) ((zip3P xs ys zs).map D.py) where
  go := fun i d H2 hd h2 g => by
    rw [List.getElem?_map] at hd
    cases e : (zip3P xs ys zs)[i]? with
    | none => rw [e] at hd; cases hd
    | some p =>
      rw [e] at hd; cases hd
      obtain ⟨q, q', q'', hq, hq', hq'', rfl⟩ := zip3P_get e
      obtain ⟨x, hx, r⟩ := s.at hY hq h2
      obtain ⟨u, hu, r'⟩ := t.at hY hq' h2
      obtain ⟨c, hc, r''⟩ := m.at hY hq'' h2
      have gv := s.stay k1 h1 H2 h2
      have gu := t.stay k2 hk2 H2 h2
      have gc := m.stay k3 hk3 H2 h2
      refine ⟨⟨vs, ws, us, x, u, c, gv, gu, gc, hx, hu, hc⟩, fun v H3 y => ?_⟩
      obtain ⟨T, o, x', u', c', rfl, hT, ho, eH, y1, y2, y3⟩ := y
      subst eH
      have : x = x' := Option.some.inj (hx.symm.trans (y1 vs gv))
      subst this
      have : u = u' := Option.some.inj (hu.symm.trans (y2 ws gu))
      subst this
      have : c = c' := Option.some.inj (hc.symm.trans (y3 us gc))
      subst this
      exact ⟨Ex.new hT, Bg.new g hT, fun Z2 hz h3 => Rq.new2 hT ho h3 (.cons (r Z2 hz) (.cons (r' Z2 hz) (.cons (r'' Z2 hz) .nil)))⟩
  stop := fun i H2 hl h2 => by
    have e : min xs.length (min ys.length zs.length) = i := by rw [← hl]; simp [zip3P]
    refine ⟨vs, ws, us, s.stay k1 h1 H2 h2, t.stay k2 hk2 H2 h2, m.stay k3 hk3 H2 h2, ?_⟩
    rw [s.rq.length, t.rq.length, m.rq.length]
    omega
theorem wk_range {lo : Int} {n : Nat} : Wk b Y Z H (Itr lo n) ((rangeP lo n).map D.py) where
  go := fun i d H2 hd h2 g => by
    rw [List.getElem?_map] at hd
    cases e : (rangeP lo n)[i]? with
    | none => rw [e] at hd; cases hd
    | some p =>
      rw [e] at hd; cases hd
      obtain ⟨hlt, rfl⟩ := rangeP_get e
      refine ⟨hlt, fun v H3 y => ?_⟩
      obtain ⟨eH, y⟩ := y
      subst eH y
      exact ⟨Ex.refl, g, fun Z2 hz _ => .int _⟩
  stop := fun i H2 hl h2 => by
    have e : n = i := by rw [← hl]; simp [rangeP]
    rw [e]
    exact Nat.le_refl _
end
/-! ### iterators as judgements -/
@[simp] def asO {α : Type} : Option α → (α → Prop) → Prop
  | some a, Q => Q a
  | none, _ => False
theorem asO_ex {α : Type} : ∀ {o : Option α} {Q : α → Prop}, asO o Q → ∃ a, o = some a ∧ Q a
  | some a, _, h => ⟨a, rfl, h⟩
@[simp] def asS : D → (List D → Prop) → Prop
  | .py p, Q => asO (itemsOf p) fun xs => Q (xs.map D.py)
  | _, _ => False
@[simp] def asEn : List D → (List D → Prop) → Prop
  | [.py p], Q => asO (itemsOf p) fun xs => Q ((enumP xs).map D.py)
  | _, _ => False
@[simp] def asZ2 : List D → (List D → Prop) → Prop
  | [.py p, .py q], Q => asO (itemsOf p) fun xs => asO (itemsOf q) fun ys => Q ((zip2P xs ys).map D.py)
  | _, _ => False
@[simp] def asZ3 : List D → (List D → Prop) → Prop
  | [.py p, .py q, .py r], Q => asO (itemsOf p) fun xs => asO (itemsOf q) fun ys => asO (itemsOf r) fun zs => Q ((zip3P xs ys zs).map D.py)
  | _, _ => False
abbrev small62 (i : Int) : Prop := -(2 ^ 62) ≤ i ∧ i < 2 ^ 62
@[simp] theorem small62_nat (n : Nat) : small62 (n : Int) ↔ n < 4611686018427387904 := by unfold small62; omega
@[simp] def asR1 : List D → (List D → Prop) → Prop
  | [.py (.int i)], Q => small62 i ∧ Q ((rangeP 0 i.toNat).map D.py)
  | _, _ => False
@[simp] def asR2 : List D → (List D → Prop) → Prop
  | [.py (.int i), .py (.int j)], Q => (small62 i ∧ small62 j) ∧ Q ((rangeP i (j - i).toNat).map D.py)
  | _, _ => False
theorem asS_ex : ∀ {d : D} {Q : List D → Prop}, asS d Q → ∃ p xs, d = .py p ∧ itemsOf p = some xs ∧ Q (xs.map D.py)
  | .py p, _, h => let ⟨xs, e, q⟩ := asO_ex h; ⟨p, xs, rfl, e, q⟩
theorem asEn_ex : ∀ {d : List D} {Q : List D → Prop}, asEn d Q → ∃ p xs, d = [.py p] ∧ itemsOf p = some xs ∧ Q ((enumP xs).map D.py)
  | [.py p], _, h => let ⟨xs, e, q⟩ := asO_ex h; ⟨p, xs, rfl, e, q⟩
theorem asZ2_ex : ∀ {d : List D} {Q : List D → Prop}, asZ2 d Q → ∃ p xs q ys, d = [.py p, .py q] ∧ itemsOf p = some xs ∧ itemsOf q = some ys ∧ Q ((zip2P xs ys).map D.py)
  | [.py p, .py q], _, h => let ⟨xs, e, h⟩ := asO_ex h; let ⟨ys, e2, h⟩ := asO_ex h; ⟨p, xs, q, ys, rfl, e, e2, h⟩
theorem asZ3_ex : ∀ {d : List D} {Q : List D → Prop}, asZ3 d Q → ∃ p xs q ys r zs, d = [.py p, .py q, .py r] ∧ itemsOf p = some xs ∧ itemsOf q = some ys ∧ itemsOf r = some zs ∧ Q ((zip3P xs ys zs).map D.py)
  | [.py p, .py q, .py r], _, h => let ⟨xs, e, h⟩ := asO_ex h; let ⟨ys, e2, h⟩ := asO_ex h; let ⟨zs, e3, h⟩ := asO_ex h; ⟨p, xs, q, ys, r, zs, rfl, e, e2, e3, h⟩
theorem asR1_ex : ∀ {d : List D} {Q : List D → Prop}, asR1 d Q → ∃ i, d = [.py (.int i)] ∧ small62 i ∧ Q ((rangeP 0 i.toNat).map D.py)
  | [.py (.int i)], _, h => ⟨i, rfl, h⟩
theorem asR2_ex : ∀ {d : List D} {Q : List D → Prop}, asR2 d Q → ∃ i j, d = [.py (.int i), .py (.int j)] ∧ (small62 i ∧ small62 j) ∧ Q ((rangeP i (j - i).toNat).map D.py)
  | [.py (.int i), .py (.int j)], _, h => ⟨i, j, rfl, h⟩
@[simp] def iS (t : VT) : VIt := fun ρ Q E => t ρ (fun d => asS d Q) E
@[simp] def iEn (t : VA) : VIt := fun ρ Q E => t ρ (fun d => asEn d Q) E
@[simp] def iZ2 (t : VA) : VIt := fun ρ Q E => t ρ (fun d => asZ2 d Q) E
@[simp] def iZ3 (t : VA) : VIt := fun ρ Q E => t ρ (fun d => asZ3 d Q) E
@[simp] def iR1 (t : VA) : VIt := fun ρ Q E => t ρ (fun d => asR1 d Q) E
@[simp] def iR2 (t : VA) : VIt := fun ρ Q E => t ρ (fun d => asR2 d Q) E
theorem pi_mono {X : Cx} {tg iter : Expr} {t t' : TI} (h : PI X tg iter t) (m : ∀ σ H R, t' σ H R → t σ H R) : PI X tg iter t' := ⟨fun pins s σ H R I q => h.run pins s σ H R I (m σ H R q)⟩
section
variable {X : Cx} {b : Bg} {W : WX} {tg e e1 e2 e3 : Expr} {elts : List Expr} {kk : Nat} {t t1 t2 t3 : VT} {p pos tpos : Pos}
theorem Rp.ref {Z : Addr → Prop} {H : Hp} {v : V} {p : PyData} (r : Rp b Z H v (.py p)) : ∀ a, v = .ref a → ¬ Z a := fun a e => by
  subst e
  cases r <;> assumption
theorem Rb.ref {Z : Addr → Prop} {H : Hp} {v : V} {p : PyData} (g : Gd b Z H) (r : Rb b Z H v (.py p)) : ∀ a, v = .ref a → ¬ b.B a := fun a e => by
  rcases r with r | ⟨c, e1, n, _⟩
  · exact fun z => Rp.ref r a e (g.zb a z)
  · rw [e] at e1; cases e1; exact n
/-- a loop -/
theorem vi_src (h : VE X b W e t) : VI X b W tg e (iS t) := pi_mono (pi_src h) fun σ H R ⟨Zo, Z, ρ, Qd, Ed, v, q, l, m⟩ =>
  ⟨Zo, Z, ρ, _, Ed, v, q, fun x H1 d x1 g1 r1 hh => by
    obtain ⟨p, xs, ed, ei, q1⟩ := asS_ex hh
    subst ed
    obtain ⟨vs, C, s⟩ := srcD (K := X.K) (Y := Z) (.inl r1) (Rp.ref r1) ei
    exact ⟨vs, C, s.src, fun k hk => l _ H1 _ x1 g1 (wk_src s (fun _ n => n) hk) q1⟩, m⟩
theorem vib_src (h : VX X b W e t) : VIb X b W tg e (iS t) := pi_mono (pi_src h) fun σ H R ⟨Zo, Z, ρ, Qd, Ed, v, q, l, m⟩ =>
  ⟨Zo, Z, ρ, _, Ed, v, q, fun x H1 d x1 g1 r1 hh => by
    obtain ⟨p, xs, ed, ei, q1⟩ := asS_ex hh
    subst ed
    have gd := (v.ex x1 g1).gd
    obtain ⟨vs, C, s⟩ := srcD (K := X.K) (Y := b.B) r1 (Rb.ref gd r1) ei
    exact ⟨vs, C, s.src, fun k hk => l _ H1 _ x1 g1 (wk_src s (fun _ n z => n (gd.zb _ z)) hk) q1⟩, m⟩
theorem rbs1 {Z : Addr → Prop} {H : Hp} {v : List V} {d : D} (r : Rps b Z H v [d]) : ∃ x, v = [x] ∧ Rp b Z H x d := by
  cases r with
  | cons r t => cases t; exact ⟨_, rfl, r⟩
theorem rbs2 {Z : Addr → Prop} {H : Hp} {v : List V} {d d2 : D} (r : Rps b Z H v [d, d2]) : ∃ x y, v = [x, y] ∧ Rp b Z H x d ∧ Rp b Z H y d2 := by
  cases r with
  | cons r t => obtain ⟨y, rfl, r2⟩ := rbs1 t; exact ⟨_, y, rfl, r, r2⟩
theorem rbs3 {Z : Addr → Prop} {H : Hp} {v : List V} {d d2 d3 : D} (r : Rps b Z H v [d, d2, d3]) : ∃ x y z, v = [x, y, z] ∧ Rp b Z H x d ∧ Rp b Z H y d2 ∧ Rp b Z H z d3 := by
  cases r with
  | cons r t => obtain ⟨y, z, rfl, r2, r3⟩ := rbs2 t; exact ⟨_, y, z, rfl, r, r2, r3⟩
theorem Rbs.three {Z : Addr → Prop} {H : Hp} {v : List V} {d d2 d3 : D} (r : Rbs b Z H v [d, d2, d3]) : ∃ x y z, v = [x, y, z] ∧ Rb b Z H x d ∧ Rb b Z H y d2 ∧ Rb b Z H z d3 := by
  cases r with
  | cons r t => obtain ⟨y, z, rfl, r2, r3⟩ := Rbs.two t; exact ⟨_, y, z, rfl, r, r2, r3⟩
variable {ta : VA}
theorem vi_enum (hg : Gl X "enumerate") (hm : X.mg "enumerate" = none) (h : VAs X b W [e] ta) (hs : starEach [e] X.env = [(false, eval e X.env)] := by rfl) : VI X b W (.Tuple elts kk tpos) (.Call (.Name "enumerate" p) [e] [] pos) (iEn ta) :=
  pi_mono (pi_enumS hg hm h hs) fun σ H R ⟨Zo, Z, ρ, Qd, Ed, v, q, l, m⟩ =>
    ⟨Zo, Z, ρ, _, Ed, v, q, fun x H1 d x1 g1 r1 hh => by
      obtain ⟨p, xs, ed, ei, q1⟩ := asEn_ex hh
      subst ed
      obtain ⟨w, rfl, r2⟩ := rbs1 r1
      obtain ⟨vs, C, s⟩ := srcD (K := X.K) (Y := Z) (.inl r2) (Rp.ref r2) ei
      exact ⟨w, vs, C, rfl, s.src, fun k hk => l _ H1 _ x1 g1 (wk_enum s (fun _ n => n) hk) q1⟩, m⟩
theorem vib_enum (hg : Gl X "enumerate") (hm : X.mg "enumerate" = none) (h : VXs X b W [e] ta) (hs : starEach [e] X.env = [(false, eval e X.env)] := by rfl) : VIb X b W (.Tuple elts kk tpos) (.Call (.Name "enumerate" p) [e] [] pos) (iEn ta) :=
  pi_mono (pi_enumS hg hm h hs) fun σ H R ⟨Zo, Z, ρ, Qd, Ed, v, q, l, m⟩ =>
    ⟨Zo, Z, ρ, _, Ed, v, q, fun x H1 d x1 g1 r1 hh => by
      obtain ⟨p, xs, ed, ei, q1⟩ := asEn_ex hh
      subst ed
      have gd := (v.ex x1 g1).gd
      obtain ⟨w, rfl, r2⟩ := Rbs.one r1
      obtain ⟨vs, C, s⟩ := srcD (K := X.K) (Y := b.B) r2 (Rb.ref gd r2) ei
      exact ⟨w, vs, C, rfl, s.src, fun k hk => l _ H1 _ x1 g1 (wk_enum s (fun _ n z => n (gd.zb _ z)) hk) q1⟩, m⟩
theorem vi_zip2 (hg : Gl X "zip") (hm : X.mg "zip" = none) (h : VAs X b W [e, e2] ta) (hs : starEach [e, e2] X.env = (false, eval e X.env) :: starEach [e2] X.env := by rfl) (hpl : (backTo pos (starEach [e2] X.env)).any (·.1) = false := by rfl) :
    VI X b W (.Tuple elts kk tpos) (.Call (.Name "zip" p) [e, e2] [] pos) (iZ2 ta) :=
  pi_mono (pi_zip2 hg hm h hs hpl) fun σ H R ⟨Zo, Z, ρ, Qd, Ed, v, q, l, m⟩ =>
    ⟨Zo, Z, ρ, _, Ed, v, q, fun x H1 d x1 g1 r1 hh => by
      obtain ⟨p, xs, q, ys, ed, ei, ej, q1⟩ := asZ2_ex hh
      subst ed
      obtain ⟨w, y, rfl, r1, r2⟩ := rbs2 r1
      obtain ⟨vs, C, s⟩ := srcD (K := X.K) (Y := Z) (.inl r1) (Rp.ref r1) ei
      obtain ⟨vs2, C2, s2⟩ := srcD (K := X.K) (Y := Z) (.inl r2) (Rp.ref r2) ej
      exact ⟨w, y, vs, vs2, C, C2, rfl, s.src, s2.src, fun k k2 hk hk2 => l _ H1 _ x1 g1 (wk_zip2 s s2 (fun _ n => n) hk hk2) q1⟩, m⟩
theorem vib_zip2 (hg : Gl X "zip") (hm : X.mg "zip" = none) (h : VXs X b W [e, e2] ta) (hs : starEach [e, e2] X.env = (false, eval e X.env) :: starEach [e2] X.env := by rfl) (hpl : (backTo pos (starEach [e2] X.env)).any (·.1) = false := by rfl) :
    VIb X b W (.Tuple elts kk tpos) (.Call (.Name "zip" p) [e, e2] [] pos) (iZ2 ta) :=
  pi_mono (pi_zip2 hg hm h hs hpl) fun σ H R ⟨Zo, Z, ρ, Qd, Ed, v, q, l, m⟩ =>
    ⟨Zo, Z, ρ, _, Ed, v, q, fun x H1 d x1 g1 r1 hh => by
      obtain ⟨p, xs, q, ys, ed, ei, ej, q1⟩ := asZ2_ex hh
      subst ed
      have gd := (v.ex x1 g1).gd
      obtain ⟨w, y, rfl, r1, r2⟩ := Rbs.two r1
      obtain ⟨vs, C, s⟩ := srcD (K := X.K) (Y := b.B) r1 (Rb.ref gd r1) ei
      obtain ⟨vs2, C2, s2⟩ := srcD (K := X.K) (Y := b.B) r2 (Rb.ref gd r2) ej
      exact ⟨w, y, vs, vs2, C, C2, rfl, s.src, s2.src, fun k k2 hk hk2 => l _ H1 _ x1 g1 (wk_zip2 s s2 (fun _ n z => n (gd.zb _ z)) hk hk2) q1⟩, m⟩
theorem vi_zip3 (hg : Gl X "zip") (hm : X.mg "zip" = none) (h : VAs X b W [e, e2, e3] ta) (hs : starEach [e, e2, e3] X.env = (false, eval e X.env) :: starEach [e2, e3] X.env := by rfl) (hpl : (backTo pos (starEach [e2, e3] X.env)).any (·.1) = false := by rfl) :
    VI X b W (.Tuple elts kk tpos) (.Call (.Name "zip" p) [e, e2, e3] [] pos) (iZ3 ta) :=
  pi_mono (pi_zip3 hg hm h hs hpl) fun σ H R ⟨Zo, Z, ρ, Qd, Ed, v, q, l, m⟩ =>
    ⟨Zo, Z, ρ, _, Ed, v, q, fun x H1 d x1 g1 r1 hh => by
      obtain ⟨p, xs, q, ys, r, zs, ed, ei, ej, ek, q1⟩ := asZ3_ex hh
      subst ed
      obtain ⟨w, y, z, rfl, r1, r2, r3⟩ := rbs3 r1
      obtain ⟨vs, C, s⟩ := srcD (K := X.K) (Y := Z) (.inl r1) (Rp.ref r1) ei
      obtain ⟨vs2, C2, s2⟩ := srcD (K := X.K) (Y := Z) (.inl r2) (Rp.ref r2) ej
      obtain ⟨vs3, C3, s3⟩ := srcD (K := X.K) (Y := Z) (.inl r3) (Rp.ref r3) ek
      exact ⟨w, y, z, vs, vs2, vs3, C, C2, C3, rfl, s.src, s2.src, s3.src, fun k k2 k3 hk hk2 hk3 => l _ H1 _ x1 g1 (wk_zip3 s s2 s3 (fun _ n => n) hk hk2 hk3) q1⟩, m⟩
theorem pi_rng1 {Yf : (Addr → Prop) → Addr → Prop} (hg : Gl X "range") (hm : X.mg "range" = none) (h : VXs X b W [e] ta) (hs : starEach [e] X.env = [(false, eval e X.env)] := by rfl) : PI X tg (.Call (.Name "range" p) [e] [] pos) (LI b W Yf (iR1 ta)) :=
  pi_mono (pi_range1 hg hm h hs) fun σ H R ⟨Zo, Z, ρ, Qd, Ed, v, q, l, m⟩ =>
    ⟨Zo, Z, ρ, _, Ed, v, q, fun x H1 d x1 g1 r1 hh => by
      obtain ⟨i, ed, ⟨i1, i2⟩, q1⟩ := asR1_ex hh
      subst ed
      obtain ⟨w, rfl, r2⟩ := Rbs.one r1
      exact ⟨i, by rw [r2.int], i1, i2, l _ H1 _ x1 g1 wk_range q1⟩, m⟩
theorem pi_rng2 {Yf : (Addr → Prop) → Addr → Prop} (hg : Gl X "range") (hm : X.mg "range" = none) (h : VXs X b W [e1, e2] ta) (hs : starEach [e1, e2] X.env = [(false, eval e1 X.env), (false, eval e2 X.env)] := by rfl) (hs2 : starEach [e2] X.env = [(false, eval e2 X.env)] := by rfl) :
    PI X tg (.Call (.Name "range" p) [e1, e2] [] pos) (LI b W Yf (iR2 ta)) :=
  pi_mono (pi_range2 hg hm h hs hs2) fun σ H R ⟨Zo, Z, ρ, Qd, Ed, v, q, l, m⟩ =>
    ⟨Zo, Z, ρ, _, Ed, v, q, fun x H1 d x1 g1 r1 hh => by
      obtain ⟨i, j, ed, ⟨⟨i1, i2⟩, j1, j2⟩, q1⟩ := asR2_ex hh
      subst ed
      obtain ⟨w, y, rfl, r1, r2⟩ := Rbs.two r1
      exact ⟨i, j, by rw [r1.int, r2.int], ⟨i1, i2, j1, j2⟩, l _ H1 _ x1 g1 wk_range q1⟩, m⟩
theorem vi_range1 (hg : Gl X "range") (hm : X.mg "range" = none) (h : VXs X b W [e] ta) (hs : starEach [e] X.env = [(false, eval e X.env)] := by rfl) : VI X b W tg (.Call (.Name "range" p) [e] [] pos) (iR1 ta) := pi_rng1 hg hm h hs
theorem vib_range1 (hg : Gl X "range") (hm : X.mg "range" = none) (h : VXs X b W [e] ta) (hs : starEach [e] X.env = [(false, eval e X.env)] := by rfl) : VIb X b W tg (.Call (.Name "range" p) [e] [] pos) (iR1 ta) := pi_rng1 hg hm h hs
theorem vib_range2 (hg : Gl X "range") (hm : X.mg "range" = none) (h : VXs X b W [e1, e2] ta) (hs : starEach [e1, e2] X.env = [(false, eval e1 X.env), (false, eval e2 X.env)] := by rfl) (hs2 : starEach [e2] X.env = [(false, eval e2 X.env)] := by rfl) :
    VIb X b W tg (.Call (.Name "range" p) [e1, e2] [] pos) (iR2 ta) := pi_rng2 hg hm h hs hs2
end
end VL
set_option Elab.async false
set_option linter.all false
set_option maxRecDepth 100000
set_option maxHeartbeats 4000000
namespace VL
open PySem PySem.Spec PyProof.Rows L2
/-! ### from a loop's start on -/
section
variable {b : Bg} {W : WX} {H0 : Hp} {M Zo Z Z' : Addr → Prop} {σ σ' : L2.St} {H H' : Hp} {ρ ρ' : VEnv} {De : VEnds} {Dn : Ends}
/-- what a loop may write: its def's own objects -/
abbrev Mo (Zo Z : Addr → Prop) : Addr → Prop := fun a => Z a ∧ ¬ Zo a
theorem VOk.here (v : VOk b Zo Z σ H ρ) : FOk b H (Mo Zo Z) Zo Z σ H ρ :=
  ⟨v, fun _ _ e _ _ => e, fun i d a h1 h2 => by
    obtain ⟨c, h3, h4, h5, _⟩ := v.own i d h1
    rw [h2] at h3; cases h3
    exact .inl ⟨h4, h5⟩⟩
theorem FOk.mine (f : FOk b H0 M Zo Z σ H ρ) {a : Addr} (h : Mo Zo Z a) : M a ∨ H0 a = none := by
  rcases f.v.zi a h.1 with z | ⟨i, d, h1, h2⟩
  · exact absurd z h.2
  · exact f.fr i d a h1 h2
theorem FOk.extBack (f : FOk b H0 M Zo Z σ H ρ) (x : ∀ a o, H a = some o → ¬ b.B a → ¬ Mo Zo Z a → H' a = some o) : ∀ a o, H0 a = some o → ¬ b.B a → ¬ M a → H' a = some o := fun a o e nb nm =>
  x a o (f.ext a o e nb nm) nb fun mo => by
    rcases f.mine mo with z | z
    · exact nm z
    · rw [e] at z; cases z
theorem FOk.back (f : FOk b H0 M Zo Z σ H ρ) (f' : FOk b H (Mo Zo Z) Zo Z' σ' H' ρ') : FOk b H0 M Zo Z' σ' H' ρ' :=
  ⟨f'.v, f.extBack f'.ext, fun i d a h1 h2 => by
    rcases f'.fr i d a h1 h2 with z | z
    · exact f.mine z
    · cases q : H0 a with
      | none => exact .inr rfl
      | some o =>
        by_cases hb : b.B a
        · exact absurd z (b.dom _ _ f.v.g hb)
        · by_cases hm : M a
          · exact .inl hm
          · rw [f.ext a o q hb hm] at z; cases z⟩
theorem Lk.here (l : Lk b W H0 M Zo De Dn) (f : FOk b H0 M Zo Z σ H ρ) : Lk b W H (Mo Zo Z) Zo De Dn where
  nx := fun Z' σ' H' ρ' f' q => l.nx Z' σ' H' ρ' (f.back f') q
  rt := fun v H' d x g r q => l.rt v H' d (f.extBack x) g r q
  bk := fun Z' σ' H' ρ' f' q => l.bk Z' σ' H' ρ' (f.back f') q
  ct := fun Z' σ' H' ρ' f' q => l.ct Z' σ' H' ρ' (f.back f') q
  ex := fun c x Z' σ' H' ρ' er f' r q => l.ex c x Z' σ' H' ρ' er (f.back f') r q
/-- what is owned later was owned at the start, or is new -/
theorem FOk.young (f : FOk b H (Mo Zo Z) Zo Z' σ' H' ρ') (v : VOk b Zo Z σ H ρ) : ∀ a, Z' a → Z a ∨ H a = none := fun a z => by
  rcases f.v.zi a z with z | ⟨i, d, h1, h2⟩
  · exact .inl (v.zo a z)
  · exact (f.fr i d a h1 h2).imp (·.1) id
end
/-! ### for -/
@[simp] def forGo (g : VTg) (tb : VS) : List D → VEnv → VEnds → Prop
  | [], ρ, De => De.nx ρ
  | d :: ds, ρ, De => g d ρ fun ρ1 => tb ρ1 { De with nx := fun ρ2 => forGo g tb ds ρ2 De, ct := fun ρ2 => forGo g tb ds ρ2 De, bk := De.nx }
@[simp] def sFor (ti : VIt) (g : VTg) (tb : VS) : VS := fun ρ De => ti ρ (fun ds => forGo g tb ds ρ De) (De.ex ρ)
section
variable {X : Cx} {b : Bg} {W : WX} {tg iter : Expr} {body : List Stmt} {ti : VIt} {js : List Nat} {g : VTg} {tb : VS} {pos : Pos}
theorem vs_for (hp : PassesOwn (model X.prog X.w) X.A X.env X.xe) (hc : X.calm = true) (hi : VI X b W tg iter ti) (hg : VG X b tg js g) (hb : VSs X b W body tb)
    (hs : ∀ x, foldedSetIterable iter X.env x = pure x := by intro _; rfl) : VSt X b W (.For tg iter body [] pos) (sFor ti g tb) :=
  ps_mono (ps_for hp hc hi hg hb hs) fun Dn σ H ⟨H0, M, Zo, Z, ρ, De, f, q, l⟩ => ⟨Zo, Z, ρ, _, _, f.v, q, fun J H1 ds x1 g1 wk q1 => by
    have f1 := f.ex x1 g1
    have l1 := l.here f1
    have hZ : ∀ a, ¬ Z a → ¬ b.B a ∧ ¬ Mo Zo Z a := fun a n => ⟨fun z => n (f.v.zo _ (f.v.zb a z)), fun z => n z.1⟩
    refine ⟨fun i m σ' H' => m = ds.length - i ∧ i ≤ ds.length ∧ ∃ Z' ρ', FOk b H1 (Mo Zo Z) Zo Z' σ' H' ρ' ∧ forGo g tb (ds.drop i) ρ' De, ⟨ds.length, by simp, Nat.zero_le _, Z, ρ, f1.v.here, q1⟩, ?_⟩
    rintro i m σ' H' ⟨rfl, hi, Z', ρ', f', q'⟩
    have st : ∀ a o, H1 a = some o → ¬ Z a → H' a = some o := fun a o e n => f'.ext a o e (hZ a n).1 (hZ a n).2
    by_cases hlt : i < ds.length
    · rw [List.drop_eq_getElem_cons hlt] at q'
      obtain ⟨go, yl⟩ := wk.go i ds[i] H' (List.getElem?_eq_getElem hlt) st f'.v.g
      refine .inr ⟨go, fun σ2 H2 => ∃ Z2 ρ2, FOk b H1 (Mo Zo Z) Zo Z2 σ2 H2 ρ2 ∧ forGo g tb (ds.drop (i + 1)) ρ2 De, fun σ2 H2 h2 => ⟨ds.length - (i + 1), by omega, rfl, hlt, h2⟩, fun v H3 y => ?_⟩
      obtain ⟨x3, g3, r3⟩ := yl v H3 y
      refine ⟨H1, Mo Zo Z, Zo, Z', ρ', _, _, f'.ex x3 g3, r3 Z' (f'.young f1.v) f'.v.dom, q', fun Z4 σ4 ρ4 _ _ f4 q4 => ?_⟩
      exact ⟨H1, Mo Zo Z, Zo, Z4, ρ4, _, f4, q4, ⟨fun Z5 σ5 H5 ρ5 f5 q5 => ⟨Z5, ρ5, f5, q5⟩, l1.rt, fun Z5 σ5 H5 ρ5 f5 q5 => l1.nx Z5 σ5 H5 ρ5 f5 q5, fun Z5 σ5 H5 ρ5 f5 q5 => ⟨Z5, ρ5, f5, q5⟩, l1.ex⟩⟩
    · have e : ds.length = i := by omega
      rw [List.drop_eq_nil_of_le (by omega)] at q'
      exact .inl ⟨wk.stop i H' e st, l1.nx Z' σ' H' ρ' f' q'⟩, l.er f⟩
/-! ### while -/
def sWhile (c : VB) (tb : VS) : VS := fun ρ De => ∃ Iv : Nat → VEnv → Prop, (∃ m, Iv m ρ) ∧ ∀ m ρ, Iv m ρ →
  c ρ (fun k => if k = true then tb ρ { De with nx := fun ρ' => ∃ m', m' < m ∧ Iv m' ρ', ct := fun ρ' => ∃ m', m' < m ∧ Iv m' ρ', bk := De.nx } else De.nx ρ) (De.ex ρ)
theorem vs_while {c : Expr} {tc : VB} (hp : PassesOwn (model X.prog X.w) X.A X.env X.xe) (hc : VTe X b W c tc) (hb : VSs X b W body tb) : VSt X b W (.While c body [] pos) (sWhile tc tb) :=
  ps_mono (ps_while hp hc hb) fun Dn σ H ⟨H0, M, Zo, Z, ρ, De, f, ⟨Iv, ⟨m0, i0⟩, turn⟩, l⟩ => by
    refine ⟨fun m σ' H' => ∃ Z' ρ', FOk b H0 M Zo Z' σ' H' ρ' ∧ Iv m ρ', ⟨m0, Z, ρ, f, i0⟩, ?_⟩
    rintro m σ' H' ⟨Z', ρ', f', q'⟩
    refine ⟨Zo, Z', ρ', _, _, f'.v, turn m ρ' q', fun k H2 x g q2 => ?_, l.er f'⟩
    cases k with
    | true =>
      refine ⟨fun σ3 H3 => ∃ m', m' < m ∧ ∃ Z3 ρ3, FOk b H0 M Zo Z3 σ3 H3 ρ3 ∧ Iv m' ρ3, fun σ3 H3 ⟨m', hm, h3⟩ => ⟨m', hm, h3⟩, ?_⟩
      exact ⟨H0, M, Zo, Z', ρ', _, f'.ex x g, q2, ⟨fun Z5 σ5 H5 ρ5 f5 ⟨m', hm, q5⟩ => ⟨m', hm, Z5, ρ5, f5, q5⟩, l.rt, fun Z5 σ5 H5 ρ5 f5 q5 => l.nx Z5 σ5 H5 ρ5 f5 q5, fun Z5 σ5 H5 ρ5 f5 ⟨m', hm, q5⟩ => ⟨m', hm, Z5, ρ5, f5, q5⟩, l.ex⟩⟩
    | false => exact l.nx Z' σ' H2 ρ' (f'.ex x g) q2
end
/-! ### list comprehensions -/
abbrev noW : WX := fun _ _ _ _ => False
abbrev noE : Er → Prop := fun _ => False
@[simp] def wipeE (ρ : VEnv) : List Nat → VEnv
  | [] => ρ
  | v :: vs => (wipeE ρ vs).set v .un
@[simp] def wYes : VB := fun _ Q _ => Q true
@[simp] def lcGo (g : VTg) (tt : VB) (te : VT) (Q : D → Prop) : List D → List PyData → VEnv → Prop
  | [], acc, _ => Q (.py (.list acc))
  | d :: ds, acc, ρ => g d ρ fun ρ1 => tt ρ1 (fun k => if k = true then te ρ1 (fun y => ∃ p, y = .py p ∧ acc.length < sizeLine ∧ lcGo g tt te Q ds (acc ++ [p]) ρ) noE else lcGo g tt te Q ds acc ρ) noE
/-- no slot of these is owned -/
@[simp] def noOwn (ρ : VEnv) (vs : List Nat) : Prop := ∀ i ∈ vs, ∀ d, ρ[i]? ≠ some (.own d)
@[simp] def vLc (vs : List Nat) (ti : VIt) (g : VTg) (tt : VB) (te : VT) : VT := fun ρ Q E => noOwn ρ vs ∧ ti ρ (fun ds => lcGo g tt te Q ds [] (wipeE ρ vs)) E
theorem wipeE_len (ρ : VEnv) : ∀ vs : List Nat, (wipeE ρ vs).length = ρ.length
  | [] => rfl
  | v :: vs => by unfold wipeE; rw [List.length_set, wipeE_len ρ vs]
theorem wipeE_in {ρ : VEnv} {i : Nat} {s : Slot} : ∀ {vs : List Nat}, (wipeE ρ vs)[i]? = some s → (s = .un ∧ i ∈ vs) ∨ (ρ[i]? = some s ∧ i ∉ vs)
  | [], h => .inr ⟨h, by simp⟩
  | v :: vs, h => by
    unfold wipeE at h
    by_cases hi : v = i
    · subst hi
      by_cases hv : v < (wipeE ρ vs).length
      · rw [List.getElem?_set_self hv] at h; cases h; exact .inl ⟨rfl, List.mem_cons_self⟩
      · rw [List.getElem?_eq_none (by rw [List.length_set]; omega)] at h; cases h
    · rw [List.getElem?_set_ne hi] at h
      rcases wipeE_in h with ⟨h1, h2⟩ | ⟨h1, h2⟩
      · exact .inl ⟨h1, List.mem_cons_of_mem _ h2⟩
      · exact .inr ⟨h1, fun m => by
          rcases List.mem_cons.mp m with e | m
          · exact hi e.symm
          · exact h2 m⟩
theorem wipeE_out {ρ : VEnv} {i : Nat} {s : Slot} (h : ρ[i]? = some s) : ∀ {vs : List Nat}, i ∉ vs → (wipeE ρ vs)[i]? = some s
  | [], _ => h
  | v :: vs, hn => by
    unfold wipeE
    rw [List.getElem?_set_ne (fun e => hn (by rw [e]; exact List.mem_cons_self))]
    exact wipeE_out h fun m => hn (List.mem_cons_of_mem _ m)
theorem wipe_same {σ σ' : L2.St} {ρ ρ' : VEnv} {js : List Nat} (s : Same js σ σ' ρ ρ') : ∀ {vs : List Nat}, (∀ j ∈ js, j ∈ vs) → wipe σ' vs = wipe σ vs := fun {vs} h => by
  have wo : ∀ (τ : L2.St) (j : Nat) (vs : List Nat), j ∉ vs → (wipe τ vs)[j]? = τ[j]? := fun τ j vs => by
    induction vs with
    | nil => intro _; rfl
    | cons v vs ih =>
      intro hn
      show ((wipe τ vs).set v none)[j]? = _
      rw [List.getElem?_set_ne (fun e => hn (by rw [e]; exact List.mem_cons_self))]
      exact ih fun m => hn (List.mem_cons_of_mem _ m)
  have wi : ∀ (τ : L2.St) (j : Nat) (vs : List Nat), j ∈ vs → (wipe τ vs)[j]? = if j < τ.length then some none else none := fun τ j vs => by
    induction vs with
    | nil => intro h; cases h
    | cons v vs ih =>
      intro hm
      show ((wipe τ vs).set v none)[j]? = _
      by_cases e : v = j
      · subst e
        by_cases hl : v < τ.length
        · rw [List.getElem?_set_self (by rw [wipe_length]; exact hl), if_pos hl]
        · rw [List.getElem?_eq_none (by rw [List.length_set, wipe_length]; omega), if_neg hl]
      · rw [List.getElem?_set_ne e]
        exact ih ((List.mem_cons.mp hm).resolve_left fun q => e q.symm)
  apply List.ext_getElem?
  intro j
  by_cases hj : j ∈ vs
  · rw [wi σ' j vs hj, wi σ j vs hj, s.len]
  · rw [wo σ' j vs hj, wo σ j vs hj]
    exact s.out j fun m => hj (h j m)
theorem VOk.wiped {b : Bg} {Zo Z : Addr → Prop} {σ : L2.St} {H : Hp} {ρ : VEnv} (v : VOk b Zo Z σ H ρ) {vs : List Nat} (hn : noOwn ρ vs) : VOk b Zo Z (wipe σ vs) H (wipeE ρ vs) where
  g := v.g
  zb := v.zb
  zo := v.zo
  dom := v.dom
  zi := fun a z => by
    rcases v.zi a z with z | ⟨i, d, h1, h2⟩
    · exact .inl z
    · have hi : i ∉ vs := fun m => hn i m d h1
      exact .inr ⟨i, d, wipeE_out h1 hi, by rw [wipe_out hi]; exact h2⟩
  own := fun i d h => by
    rcases wipeE_in h with ⟨h1, _⟩ | ⟨h1, hi⟩
    · cases h1
    · obtain ⟨a, h2, h3⟩ := v.own i d h1
      exact ⟨a, by rw [wipe_out hi]; exact h2, h3⟩
  inj := fun i j d e a h1 h2 h3 h4 => by
    rcases wipeE_in h1 with ⟨q, _⟩ | ⟨h1, hi⟩
    · cases q
    · rcases wipeE_in h2 with ⟨q, _⟩ | ⟨h2, hj⟩
      · cases q
      · rw [wipe_out hi] at h3
        rw [wipe_out hj] at h4
        exact v.inj i j d e a h1 h2 h3 h4
  shr := fun i d h => by
    rcases wipeE_in h with ⟨h1, _⟩ | ⟨h1, hi⟩
    · cases h1
    · obtain ⟨u, h2, h3⟩ := v.shr i d h1
      exact ⟨u, by rw [wipe_out hi]; exact h2, h3⟩
  len := by rw [wipeE_len, wipe_length]; exact v.len
section
variable {b : Bg} {Z : Addr → Prop} {H : Hp} {a : Addr}
/-- one more address to be avoided: nothing that is known reaches a new one -/
theorem Rp.apart (ha : H a = none) {o : HO} {v : V} {d : D} (r : Rp b Z H v d) : Rp b (fun c => Z c ∨ c = a) (upd H a o) v d :=
  r.mono (fun c z => z.imp id fun e => by rw [e]; exact ha) fun c u e _ => by rw [upd_ne (ne_of_none e ha)]; exact e
theorem Ow.apart (ha : H a = none) {o : HO} {c : Addr} {d : D} (r : Ow b Z H c d) : Ow b (fun c => Z c ∨ c = a) (upd H a o) c d :=
  r.mono (fun c z => z.imp id fun e => by rw [e]; exact ha) (fun c u e _ => by rw [upd_ne (ne_of_none e ha)]; exact e) fun u e => by rw [upd_ne (ne_of_none e ha)]; exact e
theorem VOk.apart {Zo : Addr → Prop} {σ : L2.St} {ρ : VEnv} (v : VOk b Zo Z σ H ρ) (ha : H a = none) {o : HO} : VOk b (fun c => Zo c ∨ c = a) (fun c => Z c ∨ c = a) σ (upd H a o) ρ where
  g := Bg.new v.g ha
  zb := fun c z => .inl (v.zb c z)
  zo := fun c z => z.imp (v.zo c) id
  dom := fun c z => by
    by_cases e : c = a
    · rw [e, upd_same]; simp
    · rw [upd_ne e]; exact v.dom c (z.resolve_right e)
  zi := fun c z => z.elim (fun z => (v.zi c z).imp .inl id) fun e => .inl (.inr e)
  own := fun i d e => by
    obtain ⟨c, h1, h2, h3, h4⟩ := v.own i d e
    exact ⟨c, h1, .inl h2, fun z => z.elim h3 fun q => v.dom c h2 (by rw [q]; exact ha), h4.apart ha⟩
  inj := v.inj
  shr := fun i d e => by
    obtain ⟨u, h1, h2⟩ := v.shr i d e
    exact ⟨u, h1, h2.apart ha⟩
  len := v.len
/-- an object that is an outer one's is written: nothing here reaches it -/
theorem VOk.outer {Zo : Addr → Prop} {σ : L2.St} {ρ : VEnv} (v : VOk b Zo Z σ H ρ) (ha : Zo a) (nb : ¬ b.B a) (hx : ∀ o, still o → H a ≠ some o) {o : HO} : VOk b Zo Z σ (upd H a o) ρ := by
  have keep : ∀ c u, H c = some u → ¬ Z c → upd H a o c = some u := fun c u e n => by rw [upd_ne (fun q => n (by rw [q]; exact v.zo a ha))]; exact e
  refine ⟨b.loc H _ (fun c hc => upd_ne fun q => nb (by rw [← q]; exact hc)) (fun c o ho e => by rw [upd_ne (fun q => hx o ho (by rw [← q]; exact e))]; exact e) v.g, v.zb, v.zo, fun c z => ?_, v.zi, fun i d e => ?_, v.inj, fun i d e => ?_, v.len⟩
  · by_cases q : c = a
    · rw [q, upd_same]; simp
    · rw [upd_ne q]; exact v.dom c z
  · obtain ⟨c, h1, h2, h3, h4⟩ := v.own i d e
    exact ⟨c, h1, h2, h3, h4.mono (fun _ z => .inl z) keep fun u e => by rw [upd_ne (fun q => h3 (by rw [q]; exact ha))]; exact e⟩
  · obtain ⟨u, h1, h2⟩ := v.shr i d e
    exact ⟨u, h1, h2.mono (fun _ z => .inl z) keep⟩
end
section
variable {b : Bg} {W : WX} {ti : VIt} {js : List Nat} {g : VTg} {tt : VB} {te : VT} {vs : List Nat}
theorem lc_sound (hjs : ∀ j ∈ js, j ∈ vs) : ∀ σ H Q, LE b W (RN b) (vLc vs ti g tt te) σ H Q → tLc (LI b W (fun _ => b.B) ti) (LG b js g) (LB b noW tt) (LE b noW (RE b) te) vs σ H Q :=
  fun σ H Q ⟨Zo, Z, ρ, Qd, Ed, v, ⟨hno, q⟩, l, m⟩ => ⟨Zo, Z, ρ, _, _, v, q, fun J H1 ds x1 g1 wk q1 => by
    intro A hA
    have v1 := v.ex x1 g1
    have nzA : ¬ Z A := v1.fresh hA
    have nbA : ¬ b.B A := v1.nb nzA
    have hA0 : H A = none := none_back g1 x1 A hA
    have v2 := (v1.apart hA (o := .lst [])).wiped hno
    -- the invariant
    let Iv : Nat → Hp → Prop := fun i H' => ∃ xs acc, H' A = some (.lst xs) ∧ Rqs (fun c => Z c ∨ c = A) H' xs acc ∧ VOk b (fun c => Zo c ∨ c = A) (fun c => Z c ∨ c = A) (wipe σ vs) H' (wipeE ρ vs) ∧ (∀ a o, H1 a = some o → ¬ b.B a → H' a = some o) ∧ lcGo g tt te Qd (ds.drop i) acc (wipeE ρ vs)
    refine ⟨fun i m H' => m = ds.length - i ∧ i ≤ ds.length ∧ Iv i H', ⟨ds.length, by simp, Nat.zero_le _, [], [], upd_same, .nil, v2, fun a o e _ => by rw [upd_ne (ne_of_none e hA)]; exact e, q1⟩, ?_⟩
    rintro i m H' ⟨rfl, hi, xs, acc, hx, rx, v', st, q'⟩
    by_cases hlt : i < ds.length
    · rw [List.drop_eq_getElem_cons hlt] at q'
      obtain ⟨go, yl⟩ := wk.go i ds[i] H' (List.getElem?_eq_getElem hlt) st v'.g
      refine .inr ⟨go, Iv (i + 1), fun H2 h2 => ⟨ds.length - (i + 1), by omega, rfl, hlt, h2⟩, fun w H3 y => ?_⟩
      obtain ⟨x3, g3, r3⟩ := yl w H3 y
      have v3 := v'.ex x3 g3
      refine ⟨H3, fun _ => True, _, _, _, ds[i], _, ⟨v3, fun _ _ e _ _ => e, fun _ _ _ _ _ => .inl trivial⟩, r3 _ (fun a z => z.imp id fun e => by rw [e]; exact hA) v'.dom, q', fun Z4 σ4 ρ4 sub sm f4 q4 => ?_⟩
      have ww : wipe (wipe σ vs) vs = wipe σ vs := wipe_same (js := vs) (σ := σ) (ρ := ρ) (ρ' := ρ) ⟨by rw [wipe_length], fun j hj => wipe_out hj, fun _ _ => rfl⟩ fun j h => h
      refine ⟨(wipe_same sm hjs).trans ww, ?_⟩
      have st3 : ∀ a o, H1 a = some o → ¬ b.B a → H3 a = some o := fun a o e n => x3 a o (st a o e n) n
      have hx3 : H3 A = some (.lst xs) := x3 A _ hx nbA
      refine ⟨_, _, _, _, _, f4.v, q4, fun k H5 x5 g5 q5 => ?_, fun c z H5 er _ _ _ h => h.elim⟩
      have st5 : ∀ a o, H1 a = some o → ¬ b.B a → H5 a = some o := fun a o e n => x5 a o (st3 a o e n) n
      have hx5 : H5 A = some (.lst xs) := x5 A _ hx3 nbA
      have v5 := v3.ex x5 g5
      have rx5 : Rqs (fun c => Z c ∨ c = A) H5 xs acc := v3.rqs x5 (v'.rqs x3 rx)
      cases k with
      | false => exact ⟨xs, acc, hx5, rx5, v5, st5, q5⟩
      | true =>
        refine ⟨_, _, _, _, _, f4.v.ex x5 g5, q5, fun u H6 d6 x6 g6 r6 ⟨p, ep, hz, q6⟩ => ?_, fun c z H6 er _ _ _ h => h.elim⟩
        subst ep
        have hx6 : H6 A = some (.lst xs) := x6 A _ hx5 nbA
        have rx6 := v5.rqs x6 rx5
        have v6 := v5.ex x6 g6
        have zo4 : ∀ c, (Zo c ∨ c = A) → Z4 c := f4.v.zo
        have r7 : Rq (fun c => Z c ∨ c = A) H6 u p := by
          refine Rq.mono (fun c z => ?_) (fun _ _ e _ => e) r6
          -- what the block's names own is what the def owns
          rcases v'.zi c z with z' | ⟨j, dj, h1, h2⟩
          · exact .inl (zo4 c z')
          · rcases wipeE_in h1 with ⟨h1, _⟩ | ⟨h1, hj⟩
            · cases h1
            · have hj' : j ∉ js := fun m => hj (hjs j m)
              have e4 := sm.env j hj'
              rw [wipeE_out h1 hj] at e4
              obtain ⟨c', h3, h4, _⟩ := f4.v.own j dj e4
              rw [sm.out j hj', h2] at h3
              cases h3
              exact .inl h4
        refine ⟨xs, hx6, by rw [rx6.length]; exact hz, xs ++ [u], acc ++ [p], upd_same, ?_, v6.outer (.inr rfl) nbA (fun o ho z => by rw [hx6] at z; cases z; exact ho), fun a o e n => ?_, q6⟩
        · have mv : ∀ c o, H6 c = some o → ¬ (Z c ∨ c = A) → upd H6 A (.lst (xs ++ [u])) c = some o := fun c o e n => by rw [upd_ne (fun q => n (.inr q))]; exact e
          exact (rx6.mono (fun _ z => .inl z) mv).append (.cons (Rq.mono (fun _ z => .inl z) mv r7) .nil)
        · rw [upd_ne (ne_of_none e hA)]
          exact x6 a o (st5 a o e n) n
    · have e : ds.length = i := by omega
      rw [List.drop_eq_nil_of_le (by omega)] at q'
      refine .inl ⟨wk.stop i H' e st, ?_⟩
      have xx : Ex b H H' := fun a o e n => st a o (x1 a o e n) n
      exact l _ H' (.py (.list acc)) xx v'.g ⟨A, rfl, hA0, xs, hx, rx⟩ q', m⟩
end
section
variable {X : Cx} {b : Bg} {W : WX} {tg iter elt c : Expr} {ifs : List Expr} {scope : Scope} {own : List (Str × Nat)} {pos spos py : Pos} {ti : VIt} {js : List Nat} {g : VTg} {tt : VB} {te : VT} {i : Nat} {y : Str}
/-- a block's tests -/
def VTs (X : Cx) (b : Bg) (ifs : List Expr) (t : VB) : Prop := PTs X ifs (LB b noW t)
theorem pts_mono {t t' : TT} (h : PTs X ifs t) (m : ∀ σ H Q, t' σ H Q → t σ H Q) : PTs X ifs t' := ⟨fun pins s σ H Q I q => h.run pins s σ H Q I (m σ H Q q)⟩
theorem vts_nil : VTs X b [] wYes := pts_mono pts_nil fun σ H Q ⟨Zo, Z, ρ, Qd, Ed, v, q, l, _⟩ => l true H Ex.refl v.g q
theorem vts_one (h : VTe X b noW c tt) : VTs X b [c] tt := pts_one h
theorem vn_lc (hc : X.calm = true) (hN : X.N.Nodup) (hi : VIb X b W tg iter ti) (ok : BlkOk X.N X.env.scope scope own) (hjs : ∀ j ∈ js, j ∈ own.map (·.2))
    (hg : ∀ (s : Shared) (H : Hp) (C : Addr) (cl : List (Str × Addr)) (fp : List Addr), VG (X.blk s H scope (compEnvC scope cl C X.env) fp) b tg js g) (ht : ∀ (s : Shared) (H : Hp) (C : Addr) (cl : List (Str × Addr)) (fp : List Addr), VTs (X.blk s H scope (compEnvC scope cl C X.env) fp) b ifs tt)
    (he : ∀ (s : Shared) (H : Hp) (C : Addr) (cl : List (Str × Addr)) (fp : List Addr), VE (X.blk s H scope (compEnvC scope cl C X.env) fp) b noW elt te) (hs : ∀ x, foldedSetIterable iter X.env x = pure x := by intro _; rfl) :
    VN X b W (.ListComp elt [⟨tg, iter, ifs, 0⟩] scope pos) (vLc (own.map (·.2)) ti g tt te) :=
  pe_mono (pe_lc hc hN hi ok hg ht he hs) (lc_sound hjs)
end
end VL
set_option Elab.async false
set_option linter.all false
set_option maxRecDepth 100000
set_option maxHeartbeats 4000000
namespace VL
open PySem PySem.Spec PyProof.Rows L2
/-! ### what a def promises, by values -/
abbrev SV := List D → (D → Prop) → (Er → Prop) → Prop
def spV (b : Bg) (S : SV) : Sp := fun vs H Q E => ∃ Z ds Qd Ed, Gd b Z H ∧ Rps b Z H vs ds ∧ S ds Qd Ed ∧ (∀ v H' d, Ex b H H' → b.G H' → Rp b Z H' v d → Qd d → Q v H') ∧ ∀ c x H' er, Ex b H H' → b.G H' → ErRp b Z H' c x er → Ed er → E c x H'
/-- the ends of a def's body -/
@[simp] def fin (Q : D → Prop) (E : Er → Prop) : VEnds := { nx := fun _ => Q (.py .none), rt := Q, bk := fun _ => False, ct := fun _ => False, ex := fun _ => E }
/-- the names' values at the entry -/
@[simp] def envOf (n : Nat) (ds : List D) : VEnv := ds.map Slot.shr ++ List.replicate (n - ds.length) .un
theorem Rps.at {b : Bg} {Z : Addr → Prop} {H : Hp} : ∀ {vs : List V} {ds : List D} {i : Nat} {d : D}, Rps b Z H vs ds → ds[i]? = some d → ∃ v, vs[i]? = some v ∧ Rp b Z H v d
  | _, _, _, _, .nil, e => by simp at e
  | _, _, 0, _, .cons r _, e => by simp at e; subst e; exact ⟨_, rfl, r⟩
  | _, _, i + 1, _, .cons _ t, e => by
    obtain ⟨y, h1, h2⟩ := Rps.at (i := i) t (by simpa using e)
    exact ⟨y, by simpa using h1, h2⟩
theorem envOf_at {n i : Nat} {ds : List D} {s : Slot} (h : (envOf n ds)[i]? = some s) : s = .un ∨ ∃ d, s = .shr d ∧ ds[i]? = some d := by
  unfold envOf at h
  by_cases hi : i < ds.length
  · rw [List.getElem?_append_left (by simpa using hi), List.getElem?_map] at h
    cases e : ds[i]? with
    | none => rw [e] at h; cases h
    | some d => rw [e] at h; cases h; exact .inr ⟨d, rfl, rfl⟩
  · rw [List.getElem?_append_right (by simpa using hi), List.getElem?_replicate] at h
    split at h
    · cases h; exact .inl rfl
    · cases h
theorem VOk.entry {b : Bg} {Z : Addr → Prop} {H : Hp} {N : List Str} {vs : List V} {ds : List D} (g : Gd b Z H) (r : Rps b Z H vs ds) (hl : vs.length ≤ N.length) : VOk b Z Z (L2.start N vs) H (envOf N.length ds) where
  g := g.g
  zb := g.zb
  zo := fun _ z => z
  dom := g.dom
  zi := fun _ z => .inl z
  own := fun i d e => by
    rcases envOf_at e with h | ⟨d', h, _⟩ <;> cases h
  inj := fun i j d e a h1 _ _ _ => by
    rcases envOf_at h1 with h | ⟨d', h, _⟩ <;> cases h
  shr := fun i d e => by
    rcases envOf_at e with h | ⟨d', h, hd⟩
    · cases h
    · cases h
      obtain ⟨v, hv, rv⟩ := r.at hd
      refine ⟨v, ?_, rv⟩
      unfold L2.start
      have hi : i < vs.length := (List.getElem?_eq_some_iff.mp hv).1
      rw [List.getElem?_append_left (by simpa using hi), List.getElem?_map, hv]
      rfl
  len := by
    unfold envOf L2.start
    rw [List.length_append, List.length_map, List.length_replicate, List.length_append, List.length_map, List.length_replicate, ← r.length]
abbrev WF (E : XK) : WX := fun c d _ H => E c d H
section
variable {P : Program} {w : World} {K : PySem.W.Frag} {mg : Str → Option Value} {base : Heap} {b : Bg} {k : Nat} {x qual : Str} {st : Stmt} {f : Addr} {fd : FuncData} {N ps : List Str} {S : SV}
theorem fin_link {t : VS} {H : Hp} {vs : List V} {Q : VK} {E : XK} (hlaw : ∀ ds Q E, S ds Q E → t (envOf N.length ds) (fin Q E)) (hl : vs.length ≤ N.length) (h : spV b S vs H Q E) :
    LS b (WF E) t { nx := fun _ H' => Q .non H', rt := Q } (L2.start N vs) H := by
  obtain ⟨Z, ds, Qd, Ed, g, r, s, l, m⟩ := h
  have x : ∀ {H'}, (∀ a o, H a = some o → ¬ b.B a → ¬ False → H' a = some o) → Ex b H H' := fun h a o e n => h a o e n not_false
  refine ⟨H, fun _ => False, Z, Z, envOf N.length ds, fin Qd Ed, ⟨VOk.entry g r hl, fun _ _ e _ _ => e, fun i d a e _ => ?_⟩, hlaw ds Qd Ed s, ⟨fun Z' σ' H' ρ' f' q => l .non H' (.py .none) (x f'.ext) f'.v.g Rq.non q, fun v H' d x1 g1 r1 q => l v H' d (x x1) g1 r1 q, fun _ _ _ _ _ q => q.elim, fun _ _ _ _ _ q => q.elim, fun c y Z' σ' H' ρ' er f' r' q => m c y H' er (x f'.ext) f'.v.g ?_ q⟩⟩
  · rcases envOf_at e with h | ⟨d', h, _⟩ <;> cases h
  · obtain ⟨h1, h2⟩ := r'
    refine ⟨h1, h2.imp id ?_⟩
    rintro ⟨a, xs, e1, e2, e3, e4⟩
    exact ⟨a, xs, e1, e2, fun z => e3 (f'.v.zo a z), e4.mono (fun c z => .inl (f'.v.zo c z)) fun _ _ e _ => e⟩
/-- a def of the text, by its body -/
theorem fnV (F : Fun K x qual st f fd) (Sc : FnScope N ps (defScope st)) {t : VS} (hlen : ∀ ds Q E, S ds Q E → ds.length = ps.length) (hps : ps.length ≤ N.length)
    (hbody : ∀ (cdv : Value) (A : Around) (outer : List Env) (s : Shared) (H : Hp) (E : XK), Room k (A.deeper (envOfC qual (defScope st) s.heap.objs.size f cdv)) →
      Takes (cxOf (L2.CX P w) P w K mg base N qual (defScope st) f cdv A outer s H E) (WF E) → VSs (cxOf (L2.CX P w) P w K mg base N qual (defScope st) f cdv A outer s H E) b (WF E) (defBody st) t)
    (hlaw : ∀ ds Q E, S ds Q E → t (envOf N.length ds) (fin Q E)) : FnOk P w K mg base (L2.CX P w) (k + 1) f fd ps (spV b S) := by
  have len : ∀ vs H Q E, spV b S vs H Q E → vs.length = ps.length := fun vs H Q E ⟨Z, ds, Qd, Ed, g, r, s, _⟩ => r.length.trans (hlen ds Qd Ed s)
  refine F.okX Sc len fun cdv A outer s H vs Q E hr h => ⟨_, hbody cdv A outer s H E hr (takes_of rfl rfl rfl rfl), fin_link hlaw (Nat.le_trans (Nat.le_of_eq (len _ _ _ _ h)) hps) h⟩
end
/-! ### calls -/
@[simp] def vCall (S : SV) (u : VA) : VT := fun ρ Q E => u ρ (fun ds => S ds Q E) E
section
variable {X : Cx} {b : Bg} {W : WX} {k : Nat} {f : Addr} {fd : FuncData} {ps : List Str} {S : SV} {x : Str} {e : Expr} {es : List Expr} {u : VA} {p pos : Pos}
theorem call_core {sp : Sp} {t : TA} (hu : t = LA b W u) (hs : sp = spV b S) : ∀ σ H Q, LE b W (RE b) (vCall S u) σ H Q → tCallS sp (WE W) t σ H Q := by
  subst hu hs
  exact fun σ H Q ⟨Zo, Z, ρ, Qd, Ed, v, q, l, m⟩ => ⟨Zo, Z, ρ, _, Ed, v, q, fun vs H1 ds x1 g1 r1 q1 => by
    have v1 := v.ex x1 g1
    exact ⟨Z, ds, Qd, Ed, v1.gd, r1, q1, fun y H2 d x2 g2 r2 q2 => l y H2 d (x1.trans x2) g2 r2 q2, fun c z H2 er x2 g2 r2 q2 => m c z H2 er (x1.trans x2) g2 r2 q2⟩, m⟩
theorem ve_call (F : FnOk X.prog X.w X.K X.mg X.base (L2.CX X.prog X.w) k f fd ps (spV b S)) (hr : Room k X.A) (tk : Takes X W) (hg : Gl X x) (hm : X.mg x = some (.ref f)) (hk : PySem.W.keepIn X.K (.ref f) = true) (hb : Binds X.K fd ps [])
    (ha : VAs X b W (e :: es) u) (hdb : (x == ("__debug__" : Str)) = false := by decide) (he : starEach (e :: es) X.env = (false, eval e X.env) :: starEach es X.env := by rfl) (hpl : (backTo pos (starEach es X.env)).any (·.1) = false := by rfl) :
    VE X b W (.Call (.Name x p) (e :: es) [] pos) (vCall S u) := pe_mono (pe_callS F hr hg hm hk hb (passAt tk) ha hdb he hpl) (call_core rfl rfl)
/-- a constant of the module -/
theorem ve_glob {v : V} {d : PyData} {uu : Value} (hg : Gl X x) (hm : X.mg x = some uu) (r : RelV v uu) (rd : ∀ (Z : Addr → Prop) (H : Hp), Rq Z H v d) (hd : (x == ("__debug__" : Str)) = false := by decide) : VE X b W (.Name x pos) (vC (.py d)) :=
  ve_const (pe_glob hg hm r hd) rd
end
end VL
set_option Elab.async false
set_option linter.all false
set_option maxRecDepth 100000
set_option maxHeartbeats 4000000
namespace VL
open PySem PySem.Spec PyProof.Rows L2
/-! ### repr of plain data (dicts among it: none of the tracked dicts is the modules' own) -/
section
variable {X : Cx} {pins : List (Addr × Obj)} {σ : L2.St} {H : Hp} {s : Shared} {Z : Addr → Prop}
section
variable {P : Program} {w : World} {h : Heap} {a : Addr} {o : Obj} {n : Nat}
end
end
section
variable {X : Cx} {b : Bg} {W : WX} {e : Expr} {u : VA} {p pos : Pos}
/-- data that repr can show here -/
structure ReprOk (d : PyData) : Prop where
  sh : d.showable = true
  len : d.shown.length ≤ sizeLine
  dep : d.depth ≤ 40
@[simp] def gRepr : List D → (D → Prop) → Prop
  | [.py d], Q => ReprOk d ∧ Q (.py (.str d.shown))
  | _, _ => False
end
end VL
set_option Elab.async false
set_option linter.all false
set_option maxRecDepth 100000
set_option maxHeartbeats 4000000
namespace VL
open PySem PySem.Spec PyProof.Rows L2
/-! ### the law itself: called where nothing is being shown -/
structure FnG (P : Program) (w : World) (K : PySem.W.Frag) (mg : Str → Option Value) (base : Heap) (k : Nat) (f : Addr) (fd : FuncData) (ps : List Str) (sp : Sp) : Prop where
  run : ∀ (A : Around) (outer : List Env) (s : Shared) (H : Hp) (args : Args) (us : List Value) (vs : List V) (Q : VK) (E : XK), Room k A → A.guards = some [] → Env0 P w K mg base A outer s H → BindsTo s fd args (ps.zip us) → Vals vs us → sp vs H Q E →
    codeAny (model P w) A (.call (.ref f) args) (CR (L2.CX P w) outer P w H s Q E) s
section
variable {P : Program} {w : World} {K : PySem.W.Frag} {mg : Str → Option Value} {base : Heap} {k : Nat} {x qual : Str} {st : Stmt} {f : Addr} {fd : FuncData} {N ps : List Str} {sp : Sp}
theorem fnG (F : Fun K x qual st f fd) (S : FnScope N ps (defScope st)) (len : ∀ vs H Q E, sp vs H Q E → vs.length = ps.length)
    (hbody : ∀ (cdv : Value) (A : Around) (outer : List Env) (s : Shared) (H : Hp) (vs : List V) (Q : VK) (E : XK), Room k (A.deeper (envOfC qual (defScope st) s.heap.objs.size f cdv)) → (A.deeper (envOfC qual (defScope st) s.heap.objs.size f cdv)).guards = some [] → sp vs H Q E →
      ∃ t, PSs (cxOf (L2.CX P w) P w K mg base N qual (defScope st) f cdv A outer s H E) (defBody st) t ∧ t { nx := fun _ H' => Q .non H', rt := Q } (L2.start N vs) H) : FnG P w K mg base (k + 1) f fd ps sp := by
  obtain ⟨oc, od, kV, doc, pm, an, cdv, ct, osl, rfl, lk, hcd⟩ := F.ex
  refine ⟨fun A outer s H args us vs Q E hr hgd e0 hb rv hsp => ?_⟩
  have nl : s.heap.NoLimit := e0.mod.nolimit.keeps fun b o e => (e0.bs b o e).1
  have kin : K.In s.heap := e0.mod.kin.keeps fun b o e => (e0.bs b o e).1
  have kinds : ∀ y ∈ ps.zip us, (defScope st).names.lookup y.1 = some .local ∨ ((defScope st).names.lookup y.1 = some .cell ∧ ((cellsFrom (s.heap.objs.size + 1) (defScope st).names []).lookup y.1).isSome = true) := fun ⟨n, v⟩ hy =>
    (S.par n (List.of_mem_zip hy).1).imp id fun q => ⟨q, PySem.W.cellsFrom_some _ _ _ (.inl q)⟩
  refine codeAny_call_function hr.depth (kin _ _ lk) rfl S.co S.gen rfl (PySem.W.codeRec_of kin hcd) (hb _ _ _ _ (wpAny_newFunctionEnv_cells S.kind kinds fun env he s1 ic => ?_))
  subst he
  refine ⟨nl.keeps ic.toInCall.keep, codeAny_func ?_⟩
  obtain ⟨t, ht, hq⟩ := hbody cdv A outer s H vs Q E (hr.deeper _) hgd hsp
  refine wpAny_mono (ht.run [] s1 (L2.start N vs) H _ (inv_start S hr.hd e0 (len _ _ _ _ hsp) rv ic) hq) (fun fl s' hs => ?_) fun e s' hs => hs
  cases fl with
  | ret u =>
    obtain ⟨v, σ', H', J, rv', q⟩ := hs
    exact ⟨v, H', J.os, J.bare, J.base, J.hok, rv', q⟩
  | next =>
    obtain ⟨σ', H', J, q⟩ := hs
    exact ⟨.non, H', J.os, J.bare, J.base, J.hok, rfl, q⟩
  | brk => exact hs.elim fun _ h => h.elim fun _ h => h.2.elim
  | cont => exact hs.elim fun _ h => h.elim fun _ h => h.2.elim
end
/-- at the heap behind the top -/
theorem lawG {P : Program} {w : World} {K : PySem.W.Frag} {mg mb : Str → Option Value} {k : Nat} {fa a : Addr} {fd : FuncData} {x : Str} {sp : Sp} {s0 : Shared} {vs : List Value} {ns : List Int}
    (KX : K.In s0.heap) (hns : s0.heap.Ns mainGlobals mg) (hb : s0.heap.Ns builtinsNs mb) (hbb : ∀ x : Str, x ≠ "__name__" → mb x = bootBuiltins x) (hlim : s0.heap.NoLimit) (hgens : s0.gens = #[])
    (ha : s0.heap.get? a = some { cls := .type "list", data := .seq vs.toArray }) (hi : IntsAre vs ns) (hl : ns.length ≤ sizeLine) (hr : Room k callerA)
    (F : ∀ base : Heap, K.In base → base.Ns mainGlobals mg → FnG P w K mg base k fa fd [x] sp) (hbind : ∀ (s : Shared) (u : Value), BindsTo s fd ⟨[u], []⟩ [(x, u)])
    (hsp : ∀ H : Hp, Only H → SqL K H a (ns.map V.int) → sp [.ref a] H (fun v _ => v = .bl true) fun _ _ _ => False) :
    codeAny (model P w) callerA (.call (.ref fa) ⟨[.ref a], []⟩) (fun r s' => r = .ok (.ret (.bool true)) ∧ OldK s0.heap s'.heap ∧ s'.os = s0.os ∧ AllBare s'.gens) s0 := by
  have rv := vals_ints hi
  -- whatever is tracked is the script
  have go : ∀ H : Hp, Only H → SqL K H a (ns.map V.int) → HOk P w H s0.heap → (∀ b, H b ≠ none → b = a) → (H a ≠ none → K.lookup a = none) →
      codeAny (model P w) callerA (.call (.ref fa) ⟨[.ref a], []⟩) (fun r s' => r = .ok (.ret (.bool true)) ∧ OldK s0.heap s'.heap ∧ s'.os = s0.os ∧ AllBare s'.gens) s0 := by
    intro H hO hS hok hA hK
    have only_a : ∀ {b : Addr} {u : HO}, H b = some u → b = a := fun {b u} q => hA b (by rw [q]; simp)
    have low : ∀ {b : Addr} {o : Obj}, s0.heap.get? b = some o → H b = none → (hidT s0.heap H).get? b = some o := fun e n => hidT_get e n
    have nsk : ∀ {b : Addr} {m : Str → Option Value}, s0.heap.Ns b m → (hidT s0.heap H).Ns b m := fun {b m} ⟨o, es, ep, e, d, r⟩ => ⟨o, es, ep, low e (by
      cases q : H b with
      | none => rfl
      | some u =>
        rw [only_a q, ha] at e
        cases e
        have d' : Data.seq vs.toArray _ = Data.dict es ep := d
        cases d'), d, r⟩
    have kb : K.In (hidT s0.heap H) := fun b o e => low (KX b o e) (by
      cases q : H b with
      | none => rfl
      | some u =>
        have eb := only_a q
        subst eb
        rw [hK (by rw [q]; simp)] at e
        cases e)
    obtain ⟨mc, c1, c2⟩ := hlim
    have env : Env0 P w K mg (hidT s0.heap H) callerA [] s0 H := ⟨rfl, ⟨kb, nsk hns, ⟨mb, nsk hb, hbb⟩, ⟨mc, nsk c1, c2⟩⟩, fun b o e => of_hidT e, Nat.le_of_eq (hidT_size _ _), trivial, (fun b m => nomatch (show b ∈ ([] : List Addr) from m)), hok, .of_eq hgens⟩
    refine codeAny_mono ((F _ kb (nsk hns)).run callerA [] s0 H ⟨[.ref a], []⟩ [.ref a] [.ref a] _ _ hr rfl env (hbind s0 (.ref a)) (.cons rfl .nil) (hsp H hO hS)) fun r s' h => ?_
    match r, h with
    | .error e, h => obtain ⟨_, _, _, _, _, _, _, _, _, _, _, _, z⟩ := h; exact z.elim
    | .ok .next, h => exact (show False from h).elim
    | .ok .brk, h => exact (show False from h).elim
    | .ok .cont, h => exact (show False from h).elim
    | .ok (.ret u), h =>
      obtain ⟨v, H', os, bare, un, hok', r', q⟩ := h
      have ev : v = .bl true := q
      subst ev
      obtain rfl : u = Value.bool true := r'
      refine ⟨rfl, OldK.of_keep fun b o e => ?_, os, bare⟩
      cases q : H b with
      | none => exact un.keep b o e q (fun z => nomatch (show b ∈ ([] : List Addr) from z)) (by simp)
      | some u =>
        rcases hO b with z | ⟨ob, xs, z⟩
        · rw [q] at z; cases z
        · obtain ⟨e1, _⟩ := hok b _ z
          obtain ⟨e2, _⟩ := hok' b _ (un.frzs b ob _ z)
          rw [e] at e1; cases e1
          exact e2
  cases hk : K.lookup a with
  | some o =>
    have e := KX a o hk
    rw [ha] at e
    cases e
    refine go (fun _ => none) (fun _ => .inl rfl) (.inr ⟨_, vs.toArray, _, hk, rfl, rfl, rfl, by rw [List.size_toArray, hi.length]; exact hl, by simpa using rv⟩) (fun b u z => nomatch (show (none : Option HO) = some u from z)) (fun b z => absurd rfl z) fun z => absurd rfl z
  | none =>
    have at1 : ∀ b, b ≠ a → (if b = a then some (HO.frz { cls := .type "list", data := .seq vs.toArray } (.lst (ns.map V.int))) else none) = none := fun b hb => if_neg hb
    refine go (fun b => if b = a then some (.frz { cls := .type "list", data := .seq vs.toArray } (.lst (ns.map V.int))) else none) (fun b => ?_) (.inl (.inr ⟨_, if_pos rfl⟩)) (fun b u z => ?_) (fun b z => Classical.byContradiction fun n => z (at1 b n)) fun _ => hk
    · by_cases hb : b = a
      · exact .inr ⟨_, _, if_pos hb⟩
      · exact .inl (at1 b hb)
    · by_cases hb : b = a
      · have z' := (if_pos hb).symm.trans z
        cases z'
        subst hb
        exact ⟨ha, by rw [List.length_map]; exact hl, vs, _, rv, ha⟩
      · have z' := (at1 b hb).symm.trans z
        cases z'
/-- the end -/
theorem walkG {l : PySem.W.OpenLaw} {n k : Nat} {q : Program} {loose : List Str} {XP : (Str → Option Value) → Heap → Prop} {YP : World → Heap → Prop} {d : DefRec} {K : Params → PySem.W.Frag} {sp : World → Sp} {x : Str}
    (hn : l.most = some n) (hn2 : n ≤ sizeLine) (hdf : d.params.defaults = []) (hr : Room k callerA) (hY : ∀ (w : World) (h : Heap), YP w h → (K w.params).In h)
    (F : ∀ (w : World) (mg : Str → Option Value) (fa : Addr) (h : Heap), (K w.params).In h → h.Ns mainGlobals mg → mg d.name = some (.ref fa) →
      ∃ fd : FuncData, (∀ (s : Shared) (u : Value), BindsTo s fd ⟨[u], []⟩ [(x, u)]) ∧ ∀ base : Heap, (K w.params).In base → base.Ns mainGlobals mg → FnG l.prog w (K w.params) mg base k fa fd [x] (sp w))
    (hsp : ∀ (w : World) (H : Hp) (a : Addr) (ns : List Int), ns.length ≤ n → Only H → SqL (K w.params) H a (ns.map V.int) → sp w [.ref a] H (fun v _ => v = .bl true) fun _ _ _ => False) :
    PySem.W.WalkO q loose XP YP l.row.toRowW d [] (fun f vs => PySem.call f vs) := by
  refine Att.attach_call hn hdf fun w s s0 mg mb fa o pm cd doc a vs ns G Y ho hd hcd hmg hobj hints hlen hg => ?_
  obtain ⟨fd, hb, hF⟩ := F w mg fa _ (hY w _ Y) G.T.g hmg
  exact lawG (hY w _ Y) G.T.g G.T.b G.T.builtins G.T.nolimit hg hobj hints (Nat.le_trans hlen hn2) hr hF hb fun H hO hS => hsp w H a ns hlen hO hS
end VL
set_option Elab.async false
set_option linter.all false
set_option maxRecDepth 100000
set_option maxHeartbeats 4000000
namespace VL
open PySem PySem.Spec PyProof.Rows L2
/-! ### // by a divisor below 2 ** 200 -/
def CDivB (i j : Int) : Prop := j ≠ 0 ∧ j.natAbs < 1606938044258990275541962092341162602522202993782792835301376
theorem op_fdivB {X : Cx} : OpR X (binaryOp .FloorDiv) (rI CDivB fun i j => .int (i.fdiv j)) := opI fun i j _ _ _ _ _ hc q => floordiv_int hc.1 q (.inl (PyProof.noPylong_of_log2 (by
  have h0 : j.natAbs ≠ 0 := by have := hc.1; omega
  have h := hc.2
  have h200 : j.natAbs.log2 < 200 := (Nat.log2_lt h0).mpr h
  omega)))
/-! ### a bag of drawn numbers: a dict with two lists, its own -/
abbrev kC : Key := .inr "cells"
/-- .. over values -/
@[simp] def svTake (r : Addr) : SV
  | [.raw v, .py (.int m)], Q, _ => v = .ref r ∧ 0 < m ∧ m < 1606938044258990275541962092341162602522202993782792835301376 ∧ ∀ x : Int, 0 ≤ x → x < m → Q (.py (.int x))
  | _, _, _ => False
theorem svTake_ex {r : Addr} : ∀ {ds : List D} {Q : D → Prop} {E : Er → Prop}, svTake r ds Q E → ∃ m : Int, ds = [.raw (.ref r), .py (.int m)] ∧ 0 < m ∧ m < 1606938044258990275541962092341162602522202993782792835301376 ∧ ∀ x : Int, 0 ≤ x → x < m → Q (.py (.int x))
  | [.raw v, .py (.int m)], _, _, ⟨e, h⟩ => ⟨m, by rw [e], h⟩
def AllIn (xs : List PyData) (R : PyData → Prop) : Prop := ∀ y ∈ xs, R y
/-- an item of a list or tuple, by a drawn number -/
@[simp] def svPick (r : Addr) : SV
  | [.raw v, .py (.list xs)], Q, _ => v = .ref r ∧ xs ≠ [] ∧ xs.length < 1606938044258990275541962092341162602522202993782792835301376 ∧ AllIn xs fun y => Q (.py y)
  | [.raw v, .py (.tuple xs)], Q, _ => v = .ref r ∧ xs ≠ [] ∧ xs.length < 1606938044258990275541962092341162602522202993782792835301376 ∧ AllIn xs fun y => Q (.py y)
  | [.raw v, .py (.str z)], Q, _ => v = .ref r ∧ z.length ≤ sizeLine ∧ signsD z ≠ [] ∧ AllIn (signsD z) fun y => Q (.py y)
  | _, _, _ => False
end VL
namespace VL
open PySem
theorem plain_ints (l : List Int) : PyData.plainAll (l.map PyData.int) = true := by
  induction l with
  | nil => rfl
  | cons a l ih => simp [PyData.plainAll, PyData.plain, ih]
end VL
namespace VL
open PySem PySem.Spec PyProof.Rows L2
def bigs (k : Int) (cs : List Int) : List Int := cs.filter fun c => decide (k ≤ c)
end VL
set_option Elab.async false
set_option linter.all false
set_option maxRecDepth 100000
set_option maxHeartbeats 4000000
namespace VL
open PySem PySem.Spec PyProof.Rows L2
open Sem (wp)
/-! ### x[::-1] -/
section
variable {prog : Program} {w : World} {A : Around} {E : Value → Shared → Prop} {s : Shared}
theorem applied_back {sl : Addr} {tk : Tok} {n : Nat} {Q : Int × Int × Nat → Shared → Prop} (hs : s.heap.IsSliceOf sl .none .none (.int (-1) tk)) (h : Q ((n : Int) - 1, -1, n) s) : wpAny (model prog w) A (Builtin.Slice.sliceApplied (.ref sl) (pure (n : Int))) Q E s := by
  obtain ⟨os, hos, hcs, hds⟩ := id hs
  unfold Builtin.Slice.sliceApplied Builtin.Slice.sliceFields
  refine wpAny_bind (wpAny_bind (wpAny_field hos hds (x := .none) rfl (wpAny_bind (wpAny_field hos hds (x := .none) rfl (wpAny_bind (wpAny_field hos hds (x := .int (-1) tk) rfl (wpAny_pure ?_)))))))
  refine wpAny_bind (HT.slicePart_ (.int (-1) tk) ?_)
  show wpAny _ _ (if ((-1 : Int) == 0) = true then _ else _) _ _ s
  rw [if_neg (by decide)]
  refine wpAny_bind (HT.slicePart_ .none (wpAny_bind (HT.slicePart_ .none (wpAny_bind (wpAny_pure ?_)))))
  have e : Builtin.Slice.slicePlaces ((n : Int) - 1) (-1) (-1) = n := by
    unfold Builtin.Slice.slicePlaces
    rw [if_neg (by decide)]
    split
    · rw [Int.neg_neg, Int.ediv_one]; omega
    · omega
  show wpAny _ _ (pure ((n : Int) - 1, (-1 : Int), Builtin.Slice.slicePlaces ((n : Int) - 1) (-1) (-1))) _ _ s
  rw [e]
  exact wpAny_pure h
theorem pick_back (xs : Array Value) : ((List.range xs.size).filterMap fun (m : Nat) => xs[((xs.size : Int) - 1 + (m : Int) * (-1)).toNat]?).toArray = xs.toList.reverse.toArray := by
  have e : (fun (m : Nat) => xs[((xs.size : Int) - 1 + (m : Int) * (-1)).toNat]?) = (fun i => xs[i]?) ∘ fun (m : Nat) => ((xs.size : Int) - 1 + (m : Int) * (-1)).toNat := rfl
  rw [e, ← List.filterMap_map]
  have e2 : (List.range xs.size).map (fun (m : Nat) => ((xs.size : Int) - 1 + (m : Int) * (-1)).toNat) = (List.range xs.size).reverse := by
    rw [← PySem.W.krv_range]
    refine List.map_congr_left fun m hm => ?_
    have := List.mem_range.mp hm
    omega
  rw [e2, List.filterMap_reverse, PySem.W.krv_all]
theorem tuple_back {t sl : Addr} {tk : Tok} {items : Array Value} {Q : Value → Shared → Prop} (ht : IsTup s.heap t items) (hs : s.heap.IsSliceOf sl .none .none (.int (-1) tk)) (hsz : items.size ≤ sizeLine)
    (h : Q (.ref s.heap.objs.size) { s with heap := s.heap.push { cls := .type "tuple", data := .seq items.toList.reverse.toArray } }) : wpAny (model prog w) A (getItem (.ref t) (.ref sl)) Q E s := by
  obtain ⟨os, hos, hcs, hds⟩ := id hs
  have hTs : s.TypeIs (.ref sl) "slice" := ⟨os, hos, hcs⟩
  have hz : sizeOk (.seq items.toList.reverse.toArray) := by
    show items.toList.reverse.toArray.size ≤ sizeLine
    rw [List.size_toArray, List.length_reverse, Array.length_toList]
    exact hsz
  unfold getItem
  try with_reducible refine wpAny_holding ?_
  first | refine wpAny_bind (wpAny_pure ?_) | skip
  refine wpAny_bind (wpAny_sequenceKey ht.typeIs (by decide) ?_)
  refine wpAny_bind (wpAny_callSpecial?_slot (name := Str.ofString "__getitem__") ht.typeIs PyProof.Rows.slot_tuple_getitem (wpAny_call_entry PyProof.Rows.slot_tuple_getitem ht.typeIs PyProof.Rows.entry_tuple_getitem ?_ (PyProof.Rows.args_tuple_getitem _ _)))
  show wpAny _ _ (Builtin.Tuple.tupleItemsOf (.ref t) >>= _) _ _ s
  refine wpAny_bind (tupleItemsOf_ ht (wpAny_bind (wpAny_typeOf hTs ?_)))
  rw [if_pos (by decide)]
  refine wpAny_bind (applied_back hs ?_)
  show wpAny _ _ (if ((items.size : Int) - 1 == 0 && (-1 : Int) == 1 && items.size == items.size) = true then _ else _) _ _ s
  rw [if_neg (by rw [show ((-1 : Int) == 1) = false by decide, Bool.and_false, Bool.false_and]; exact Bool.false_ne_true), pick_back]
  first
    | exact wpAny_bind (m := Builtin.Tuple.tupleExact _) (wpAny_newObj_type (wpAny_pure ⟨_, rfl, wpAny_pure h⟩) hz)
    | exact wpAny_bind (m := Builtin.Tuple.tupleExact _) (wpAny_newObj_type (wpAny_bind (wpAny_pure (wpAny_pure ⟨_, rfl, wpAny_pure h⟩))) hz)
    | exact wpAny_bind (wpAny_bind (m := Builtin.Tuple.tupleExact _) (wpAny_newObj_type (wpAny_pure (wpAny_pure ⟨_, rfl, wpAny_pure h⟩)) hz))
    | exact wpAny_bind (wpAny_bind (m := Builtin.Tuple.tupleExact _) (wpAny_newObj_type (wpAny_pure ⟨_, rfl, wpAny_pure h⟩) hz))
end
section
variable {X : Cx} {e st : Expr} {te : TE} {tl : TO} {p2 pos : Pos}
/-- a rule for the backward slice of a value -/
def BkR (X : Cx) (r : V → Hp → VK → Prop) : Prop :=
  ∀ (pins : List (Addr × Obj)) (s : Shared) (σ : L2.St) (H : Hp) (x : V) (v : Value) (tk : Tok) (sl : Addr) (Q : VK), Inv X pins σ H s → RelV x v → s.heap.IsSliceOf sl .none .none (.int (-1) tk) → r x H Q →
    ∃ T id, typeLookup (.type T) "__getitem__" = pure (some (.builtin id)) ∧ s.TypeIs v T ∧ wpAny (model X.prog X.w) X.A (getItem v (.ref sl)) (EP X pins σ Q) X.xe s
theorem BkR.or {r r' : V → Hp → VK → Prop} (h : BkR X r) (h' : BkR X r') : BkR X (fun x H Q => r x H Q ∨ r' x H Q) := fun pins s σ H x v tk sl Q I rx hs q => q.elim (h pins s σ H x v tk sl Q I rx hs) (h' pins s σ H x v tk sl Q I rx hs)
def tBk (r : V → Hp → VK → Prop) (te : TE) (tl : TO) : TE := fun σ H Q => te σ H fun x H1 => tl σ H1 fun l H2 => l = some (-1) ∧ r x H2 Q
theorem pe_back {r : V → Hp → VK → Prop} (hr : BkR X r) (he : PE X e te) (hl : PO X (some st) tl) : PE X (.Subscript e (.Slice none none (some st) p2) pos) (tBk r te tl) := by
  refine ⟨fun pins s σ H Q I h => ?_⟩
  refine Subscript_ (thn (he.run pins s σ H _ I h) fun v s1 ⟨x, H1, I1, r1, q1⟩ => ?_)
  have hN : PO X none tNoPart := po_none
  refine wpAny_Slice (thn (hN.run pins s1 σ H1 _ I1 (show tNoPart σ H1 (fun l H2 => l = none ∧ H2 = H1) from ⟨rfl, rfl⟩)) fun vl s2 ⟨l, H2, I2, pl, el, eH⟩ => thn (hN.run pins s2 σ H2 _ I2 (show tNoPart σ H2 (fun l H3 => l = none ∧ H3 = H2) from ⟨rfl, rfl⟩)) fun vu s3 ⟨u, H3, I3, pu, eu, eH3⟩ => ?_)
  subst eH3 eH el eu
  cases pl
  cases pu
  refine thn (hl.run pins s3 σ _ _ I3 q1) fun vs s4 ⟨k, H4, I4, pk, ek, q4⟩ => ?_
  subst ek
  cases pk with
  | int i tk =>
    have I5 : Inv X pins σ H4 { s4 with heap := s4.heap.push { cls := .type "slice", data := .fields #[.none, .none, .int (-1) tk] } } := I4.kept (t' := s4.toks) fun b ob q => Heap.get?_push_of_some _ q
    obtain ⟨T, id, hT, ht, hg⟩ := hr pins _ σ H4 x v tk s4.heap.objs.size Q I5 r1 (Heap.IsSliceOf.new ..) q4
    exact tail_any (ops := [v, .ref s4.heap.objs.size]) ht hT hg (by with_unfolding_all rfl)
def rBkL (K : PySem.W.Frag) : V → Hp → VK → Prop := fun x H Q => ∃ a xs, x = .ref a ∧ SqL K H a xs ∧ ∀ p, H p = none → Q (.ref p) (upd H p (.lst xs.reverse))
def rBkT (K : PySem.W.Frag) : V → Hp → VK → Prop := fun x H Q => ∃ a xs, x = .ref a ∧ SqT K H a xs ∧ NewT H xs.reverse Q
theorem bk_list : BkR X (rBkL X.K) := by
  intro pins s σ H x v tk sl Q I rx hs ⟨a, xs, ex, hx, q⟩
  subst ex
  obtain rfl : v = .ref a := rx
  obtain ⟨its, r, pl, hz⟩ := I.list hx
  refine ⟨"list", _, list_getitem_lookup, pl.isList.typeIs, wpAny_getItem_list_slice pl.isList hs .none .none (.int (-1) tk) (by decide) ?_ (by rw [List.size_toArray, ← r.length]; exact hz)⟩
  rw [PySem.W.krv_pick]
  have rr : Vals xs.reverse its.reverse := r.reverse
  refine ⟨.ref s.heap.objs.size, _, I.laid (o := .lst xs.reverse) (t' := s.toks) (fun b o e => Heap.get?_push_of_some _ e) (Nat.le_refl _) ⟨by rw [List.length_reverse]; exact hz, its.reverse, 0, rr, Heap.get?_push_size _ rfl⟩, rfl, q _ (I.hok.fresh (Nat.le_refl _))⟩
theorem bk_tup : BkR X (rBkT X.K) := by
  intro pins s σ H x v tk sl Q I rx hs ⟨a, xs, ex, hx, q⟩
  subst ex
  obtain rfl : v = .ref a := rx
  obtain ⟨its, r, pl, hz⟩ := I.tuple hx
  refine ⟨"tuple", _, PyProof.Rows.slot_tuple_getitem.lookup, pl.typeIs, tuple_back pl hs (by rw [List.size_toArray, ← r.length]; exact hz) ?_⟩
  exact new_th (tk := s.toks) I (by rw [List.length_reverse]; exact hz) r.reverse q
end
section
variable {X : Cx} {b : Bg} {W : WX} {e e1 e2 st : Expr} {t t1 t2 : VT} {tl : VO} {p2 pos : Pos}
@[simp] def gBk : D → (D → Prop) → Prop
  | .py (.list xs), Q => Q (.py (.list xs.reverse))
  | .py (.tuple xs), Q => Q (.py (.tuple xs.reverse))
  | _, _ => False
@[simp] def vBk (t : VT) (tl : VO) : VT := fun ρ Q E => t ρ (fun x => tl ρ (fun k => k = some (-1) ∧ gBk x Q) E) E
/-! ### products, minus -/
@[simp] def gMul : D → D → (D → Prop) → Prop
  | .py (.int i), .py (.int j), Q => CMul i j ∧ Q (.py (.int (i * j)))
  | .py (.list xs), .py (.int k), Q => (-(2 ^ 63) ≤ k ∧ k < 2 ^ 63 ∧ xs.length * k.toNat ≤ sizeLine) ∧ Q (.py (.list (List.replicate k.toNat xs).flatten))
  | .py (.tuple xs), .py (.int k), Q => (xs ≠ [] ∧ 2 ≤ k ∧ k ≤ 1000 ∧ xs.length ≤ 1000) ∧ Q (.py (.tuple (List.replicate k.toNat xs).flatten))
  | _, _, _ => False
@[simp] def gRepL : D → D → (D → Prop) → Prop
  | .py (.list xs), .py (.int k), Q => (-(2 ^ 63) ≤ k ∧ k < 2 ^ 63 ∧ xs.length * k.toNat ≤ sizeLine) ∧ Q (.py (.list (List.replicate k.toNat xs).flatten))
  | _, _, _ => False
theorem rn_rep : OpD b (RN b) rRep gRepL := by
  intro Z H x y dx dy Q Qd gd rx ry h k
  match dx, dy, h, rx, ry with
  | .py (.list xs), .py (.int n), ⟨⟨h1, h2, h3⟩, h⟩, rx, ry =>
    obtain ⟨a, us, rfl, ha, qa⟩ := rx.list
    refine ⟨a, n, us, rfl, ry.int, ha, h1, h2, by rw [qa.length]; exact h3, fun p hp => k _ _ (.py (.list _)) (Ex.new hp) (gd.new hp) ⟨p, rfl, hp, _, upd_same, (qa.rep n.toNat).up' hp⟩ h⟩
theorem rd_mul : OpD b (RE b) (fun x y H Q => rI CMul (fun i j => .int (i * j)) x y H Q ∨ (fun x y H Q => rRep x y H Q ∨ rRepF X.K x y H Q) x y H Q) gMul := by
  intro Z H x y dx dy Q Qd gd rx ry h k
  match dx, dy, h, rx, ry with
  | .py (.int i), .py (.int j), ⟨hc, h⟩, rx, ry =>
    rw [rx.int, ry.int]
    exact .inl ⟨i, j, rfl, rfl, hc, k _ H (.py (.int (i * j))) Ex.refl gd.g (.int _) h⟩
  | .py (.list xs), .py (.int n), h, rx, ry => exact .inr (.inl (OpD.toE rn_rep Z H x y (.py (.list xs)) (.py (.int n)) Q Qd gd rx ry h k))
  | .py (.tuple xs), .py (.int n), ⟨⟨h1, h2, h3, h4⟩, h⟩, rx, ry =>
    obtain ⟨a, oa, us, rfl, ha, da, na, qa⟩ := rx.tuple
    refine .inr (.inr ⟨a, n, us, rfl, ry.int, SqT.th ha, fun e => ?_, h2, h3, by rw [qa.length]; exact h4, fun p o hp ho => k _ _ (.py (.tuple _)) (Ex.new hp) (gd.new hp) (.tup upd_same ho (gd.fresh hp) ((qa.rep n.toNat).up hp)) h⟩)
    subst e
    cases qa
    exact h1 rfl
theorem vn_mul (h1 : VX X b W e1 t1) (h2 : VX X b W e2 t2) : VN X b W (.BinOp e1 .Mult e2 pos) (vBin gRepL t1 t2) := vn_op op_rep rn_rep h1 h2
@[simp] def gNeg : D → (D → Prop) → Prop
  | .py (.int i), Q => Q (.py (.int (-i)))
  | _, _ => False
theorem ve_neg (h : VX X b W e t) : VE X b W (.UnaryOp .USub e pos) (vUn gNeg t) :=
  pe_mono (pe_un un_neg h) fun σ H Q ⟨Zo, Z, ρ, Qd, Ed, v, q, l, m⟩ => ⟨Zo, Z, ρ, _, Ed, v, q, fun x H1 d x1 g1 r1 q1 => by
    match d, q1, r1 with
    | .py (.int i), q1, r1 => exact ⟨i, r1.int, l _ H1 (.py (.int (-i))) x1 g1 (Rq.int _) q1⟩, m⟩
/-! ### dict displays -/
@[simp] def vD0 : VT := fun _ Q _ => Q (.py (.dict []))
theorem vn_dict0 : VN X b W (.Dict [] [] pos) vD0 := pe_mono pe_dnewK fun σ H Q ⟨Zo, Z, ρ, Qd, Ed, v, q, l, m⟩ p hp => l _ _ (.py (.dict [])) (Ex.new hp) (Bg.new v.g hp) ⟨p, rfl, hp, [], upd_same, .nil⟩ q
@[simp] def vD1 (k : Key) (t : VT) : VT := fun ρ Q E => t ρ (fun d => ∃ p, d = .py p ∧ Q (.py (.dict [(kD k, p)]))) E
end
end VL
set_option Elab.async false
set_option linter.all false
set_option maxRecDepth 100000
set_option maxHeartbeats 4000000
namespace VL
open PySem PySem.Spec PyProof.Rows L2
theorem bb_int : bootBuiltins "int" = some (.type "int") := by decide +kernel
theorem bb_bool : bootBuiltins "bool" = some (.type "bool") := by decide +kernel
theorem bb_tuple : bootBuiltins "tuple" = some (.type "tuple") := by decide +kernel
theorem bb_list : bootBuiltins "list" = some (.type "list") := by decide +kernel
theorem bb_sum : bootBuiltins "sum" = some (.builtin "sum") := by decide +kernel
theorem bb_all : bootBuiltins "all" = some (.builtin "all") := by decide +kernel
theorem bb_any : bootBuiltins "any" = some (.builtin "any") := by decide +kernel
theorem bb_max : bootBuiltins "max" = some (.builtin "max") := by decide +kernel
theorem bb_min : bootBuiltins "min" = some (.builtin "min") := by decide +kernel
theorem bb_isi : bootBuiltins "isinstance" = some (.builtin "isinstance") := by decide +kernel
section
variable {X : Cx} {b : Bg} {W : WX} {e : Expr} {es : List Expr} {u : VA} {p pos : Pos} {t : VT}
theorem ve_intC (hg : Gl X "int") (hm : X.mg "int" = none) (ha : VXs X b W (e :: es) u) (he : starEach (e :: es) X.env = (false, eval e X.env) :: starEach es X.env := by rfl) (hpl : (backTo pos (starEach es X.env)).any (·.1) = false := by rfl) :
    VE X b W (.Call (.Name "int" p) (e :: es) [] pos) (vCal gInt u) := ve_callTy (CallR.or call_int1 call_int_str) rd_int hg hm bb_int ha (by decide) (by decide) he hpl
theorem ve_tupleC (hg : Gl X "tuple") (hm : X.mg "tuple" = none) (ha : VXs X b W (e :: es) u) (he : starEach (e :: es) X.env = (false, eval e X.env) :: starEach es X.env := by rfl) (hpl : (backTo pos (starEach es X.env)).any (·.1) = false := by rfl) :
    VE X b W (.Call (.Name "tuple" p) (e :: es) [] pos) (vCal gTuple u) := ve_callTy call_tupF rd_tuple hg hm bb_tuple ha (by decide) (by decide) he hpl
theorem ve_isi (hg : Gl X "isinstance") (hm : X.mg "isinstance" = none) (ha : VXs X b W (e :: es) u) (he : starEach (e :: es) X.env = (false, eval e X.env) :: starEach es X.env := by rfl) (hpl : (backTo pos (starEach es X.env)).any (·.1) = false := by rfl) :
    VE X b W (.Call (.Name "isinstance" p) (e :: es) [] pos) (vCal gIsi u) := ve_callB call_isi rd_isi hg hm bb_isi ha (by decide) (by decide) he hpl
theorem ve_tyInt (hg : Gl X "int") (hm : X.mg "int" = none) : VE X b W (.Name "int" pos) (vC (.raw (.ty "int"))) := ve_ty hg hm bb_int
theorem ve_tyBool (hg : Gl X "bool") (hm : X.mg "bool" = none) : VE X b W (.Name "bool" pos) (vC (.raw (.ty "bool"))) := ve_ty hg hm bb_bool
theorem ve_tyTuple (hg : Gl X "tuple") (hm : X.mg "tuple" = none) : VE X b W (.Name "tuple" pos) (vC (.raw (.ty "tuple"))) := ve_ty hg hm bb_tuple
theorem ve_sum (hc : X.calm = true) (hg : Gl X "sum") (hm : X.mg "sum" = none) (ha : VXs X b W (e :: es) u) (he : starEach (e :: es) X.env = (false, eval e X.env) :: starEach es X.env := by rfl) (hpl : (backTo pos (starEach es X.env)).any (·.1) = false := by rfl) :
    VE X b W (.Call (.Name "sum" p) (e :: es) [] pos) (vCal gSum u) := ve_callB (cr_sum hc) rd_sum hg hm bb_sum ha (by decide) (by decide) he hpl
theorem ve_all (hc : X.calm = true) (hg : Gl X "all") (hm : X.mg "all" = none) (ha : VXs X b W (e :: es) u) (he : starEach (e :: es) X.env = (false, eval e X.env) :: starEach es X.env := by rfl) (hpl : (backTo pos (starEach es X.env)).any (·.1) = false := by rfl) :
    VE X b W (.Call (.Name "all" p) (e :: es) [] pos) (vCal gAll u) := ve_callB (cr_all hc) rd_all hg hm bb_all ha (by decide) (by decide) he hpl
theorem ve_any (hc : X.calm = true) (hg : Gl X "any") (hm : X.mg "any" = none) (ha : VXs X b W (e :: es) u) (he : starEach (e :: es) X.env = (false, eval e X.env) :: starEach es X.env := by rfl) (hpl : (backTo pos (starEach es X.env)).any (·.1) = false := by rfl) :
    VE X b W (.Call (.Name "any" p) (e :: es) [] pos) (vCal gAny u) := ve_callB (cr_any hc) rd_any hg hm bb_any ha (by decide) (by decide) he hpl
theorem ve_max (hc : X.calm = true) (hg : Gl X "max") (hm : X.mg "max" = none) (ha : VXs X b W (e :: es) u) (he : starEach (e :: es) X.env = (false, eval e X.env) :: starEach es X.env := by rfl) (hpl : (backTo pos (starEach es X.env)).any (·.1) = false := by rfl) :
    VE X b W (.Call (.Name "max" p) (e :: es) [] pos) (vCal gMax u) := ve_callB (CallR.or (call_max2 hc) (cr_max hc)) rd_max hg hm bb_max ha (by decide) (by decide) he hpl
theorem ve_min (hc : X.calm = true) (hg : Gl X "min") (hm : X.mg "min" = none) (ha : VXs X b W (e :: es) u) (he : starEach (e :: es) X.env = (false, eval e X.env) :: starEach es X.env := by rfl) (hpl : (backTo pos (starEach es X.env)).any (·.1) = false := by rfl) :
    VE X b W (.Call (.Name "min" p) (e :: es) [] pos) (vCal gMin u) := ve_callB (CallR.or (call_min2 hc) (cr_min hc)) rd_min hg hm bb_min ha (by decide) (by decide) he hpl
end
/-! ### a def that is called: all that its call wants -/
structure Cal (P : Program) (w : World) (K : PySem.W.Frag) (mg : Str → Option Value) (base : Heap) (b : Bg) (k : Nat) (x : Str) (ps : List Str) (S : SV) where
  f : Addr
  fd : FuncData
  F : FnOk P w K mg base (L2.CX P w) k f fd ps (spV b S)
  g : mg x = some (.ref f)
  kp : PySem.W.keepIn K (.ref f) = true
  bd : Binds K fd ps []
section
variable {X : Cx} {b : Bg} {W : WX} {k j : Nat} {x : Str} {ps : List Str} {S : SV} {e : Expr} {es : List Expr} {u : VA} {p pos : Pos}
theorem ve_cal (c : Cal X.prog X.w X.K X.mg X.base b k x ps S) (hr : Room j X.A) (tk : Takes X W) (hg : Gl X x) (ha : VAs X b W (e :: es) u) (hk : k ≤ j := by decide) (hdb : (x == ("__debug__" : Str)) = false := by decide)
    (he : starEach (e :: es) X.env = (false, eval e X.env) :: starEach es X.env := by rfl) (hpl : (backTo pos (starEach es X.env)).any (·.1) = false := by rfl) : VE X b W (.Call (.Name x p) (e :: es) [] pos) (vCall S u) :=
  ve_call c.F (hr.mono hk) tk hg c.g c.kp c.bd ha hdb he hpl
end
section
variable {X : Cx} {b : Bg} {W : WX} {tg iter elt c : Expr} {ifs : List Expr} {scope : Scope} {own : List (Str × Nat)} {pos spos py : Pos} {ti : VIt} {js : List Nat} {g : VTg} {tt : VB} {te : VT} {i : Nat} {y : Str} {t : VT}
theorem LE.new : ∀ σ H Q, LE b W (RE b) t σ H Q → LE b W (RN b) t σ H Q := fun σ H Q ⟨Zo, Z, ρ, Qd, Ed, v, q, l, m⟩ => ⟨Zo, Z, ρ, Qd, Ed, v, q, fun u H' d x g ⟨a, e, n, o⟩ => by
  subst e
  exact l _ H' d x g (o.rp (fun _ z => .inl z) (v.fresh n)), m⟩
/-- name = [..] on one line, shared from then on -/
theorem vs_setLcE (hc : X.calm = true) (hN : X.N.Nodup) (hy : X.N[i]? = some y) (hyl : X.env.scope.names.lookup y = some .local) (hsw : swapsWith (.ListComp elt [⟨tg, iter, ifs, 0⟩] scope pos) (some (.Name y py)) spos.line X.env = pure true)
    (hi : VIb X b W tg iter ti) (ok : BlkOk X.N X.env.scope scope own) (hjs : ∀ j ∈ js, j ∈ own.map (·.2))
    (hg : ∀ (s : Shared) (H : Hp) (C : Addr) (cl : List (Str × Addr)) (fp : List Addr), VG (X.blk s H scope (compEnvC scope cl C X.env) fp) b tg js g) (ht : ∀ (s : Shared) (H : Hp) (C : Addr) (cl : List (Str × Addr)) (fp : List Addr), VTs (X.blk s H scope (compEnvC scope cl C X.env) fp) b ifs tt)
    (he : ∀ (s : Shared) (H : Hp) (C : Addr) (cl : List (Str × Addr)) (fp : List Addr), VE (X.blk s H scope (compEnvC scope cl C X.env) fp) b noW elt te) (hs : ∀ x, foldedSetIterable iter X.env x = pure x := by intro _; rfl) :
    VSt X b W (.Assign [.Name y py] (.ListComp elt [⟨tg, iter, ifs, 0⟩] scope pos) spos) (sSet i (vLc (own.map (·.2)) ti g tt te)) :=
  vs_set (ps_setLc hc hN hy hyl hsw hi ok hg ht he hs) fun σ H Q q => lc_sound hjs σ H Q (LE.new σ H Q q)
end
end VL
set_option Elab.async false
set_option linter.all false
set_option maxRecDepth 100000
set_option maxHeartbeats 4000000
namespace VL
open PySem PySem.Spec PyProof.Rows L2
@[simp] theorem szl : sizeLine = 16777216 := sizeLine_eq
@[simp] def asB : D → (Bool → Prop) → Prop
  | .py (.bool k), Q => Q k
  | _, _ => False
@[simp] def asI : D → (Int → Prop) → Prop
  | .py (.int k), Q => Q k
  | _, _ => False
@[simp] def asP : D → (PyData → Prop) → Prop
  | .py k, Q => Q k
  | _, _ => False
@[simp 2000] theorem ex_bool (d : D) (Q : Bool → Prop) : (∃ k, d = .py (.bool k) ∧ Q k) ↔ asB d Q := by
  refine ⟨fun ⟨k, e, q⟩ => by rw [e]; exact q, fun h => ?_⟩
  match d, h with
  | .py (.bool k), h => exact ⟨k, rfl, h⟩
@[simp 2000] theorem ex_int (d : D) (Q : Int → Prop) : (∃ k, d = .py (.int k) ∧ Q k) ↔ asI d Q := by
  refine ⟨fun ⟨k, e, q⟩ => by rw [e]; exact q, fun h => ?_⟩
  match d, h with
  | .py (.int k), h => exact ⟨k, rfl, h⟩
@[simp 2000] theorem ex_py (d : D) (Q : PyData → Prop) : (∃ k, d = .py k ∧ Q k) ↔ asP d Q := by
  refine ⟨fun ⟨k, e, q⟩ => by rw [e]; exact q, fun h => ?_⟩
  match d, h with
  | .py k, h => exact ⟨k, rfl, h⟩
@[simp 2000] theorem ex_pys (ds : List D) (Q : List PyData → Prop) : (∃ ps, pys ds = some ps ∧ Q ps) ↔ asO (pys ds) Q := by
  refine ⟨fun ⟨k, e, q⟩ => by rw [e]; exact q, asO_ex⟩
/-! ### comprehensions, loops: how their readings are met -/
/-- one turn of a comprehension -/
def lcStep (g : VTg) (tt : VB) (te : VT) (d : D) (ρ : VEnv) (k : Option PyData → Prop) : Prop :=
  g d ρ fun ρ1 => tt ρ1 (fun b => if b = true then te ρ1 (fun y => ∃ p, y = .py p ∧ k (some p)) noE else k none) noE
section
variable {g : VTg} {tt : VB} {te : VT} {ρ : VEnv} {Q : D → Prop}
theorem lcGo_cons {d : D} {ds : List D} {acc : List PyData} (h : lcStep g tt te d ρ fun o => match o with
    | some p => acc.length < sizeLine ∧ lcGo g tt te Q ds (acc ++ [p]) ρ
    | none => lcGo g tt te Q ds acc ρ) : lcGo g tt te Q (d :: ds) acc ρ := h
/-- every turn gives just f -/
theorem lc_fun (f : PyData → Option PyData) : ∀ {xs acc : List PyData}, (∀ x ∈ xs, ∀ k, k (f x) → lcStep g tt te (.py x) ρ k) → acc.length + xs.length < 16777216 → Q (.py (.list (acc ++ xs.filterMap f))) → lcGo g tt te Q (xs.map D.py) acc ρ
  | [], acc, _, _, q => by simpa using q
  | x :: xs, acc, h, hl, q => by
    refine lcGo_cons (h x List.mem_cons_self _ ?_)
    have hr : ∀ y ∈ xs, ∀ k, k (f y) → lcStep g tt te (.py y) ρ k := fun y hy => h y (List.mem_cons_of_mem _ hy)
    rw [List.length_cons] at hl
    rw [List.filterMap_cons] at q
    cases e : f x with
    | none => rw [e] at q; exact lc_fun f hr (by omega) q
    | some p =>
      rw [e] at q
      refine ⟨by rw [szl]; omega, lc_fun f hr (by rw [List.length_append, List.length_singleton]; omega) ?_⟩
      rw [List.append_assoc]
      exact q
/-- every turn keeps an item, with R -/
theorem lc_rel (R : PyData → PyData → Prop) : ∀ {xs acc : List PyData}, (∀ x ∈ xs, ∀ k, (∀ p, R x p → k (some p)) → lcStep g tt te (.py x) ρ k) → acc.length + xs.length < 16777216 →
    (∀ ps : List PyData, ps.length = xs.length → (∀ (i : Nat) (x p : PyData), xs[i]? = some x → ps[i]? = some p → R x p) → Q (.py (.list (acc ++ ps)))) → lcGo g tt te Q (xs.map D.py) acc ρ
  | [], acc, _, _, q => by
    have := q [] rfl (fun i x p e => by simp at e)
    simpa using this
  | x :: xs, acc, h, hl, q => by
    refine lcGo_cons (h x List.mem_cons_self _ fun p hp => ?_)
    rw [List.length_cons] at hl
    refine ⟨by rw [szl]; omega, lc_rel R (fun y hy => h y (List.mem_cons_of_mem _ hy)) (by rw [List.length_append, List.length_singleton]; omega) fun ps e r => ?_⟩
    rw [List.append_assoc]
    refine q (p :: ps) (by simp [e]) fun i y z e1 e2 => ?_
    cases i with
    | zero =>
      simp at e1 e2
      subst e1 e2
      exact hp
    | succ i => exact r i y z (by simpa using e1) (by simpa using e2)
/-- .. whatever its turn -/
theorem lc_mem (R : PyData → Prop) {xs acc : List PyData} (h : ∀ x ∈ xs, ∀ k, (∀ p, R p → k (some p)) → lcStep g tt te (.py x) ρ k) (hl : acc.length + xs.length < 16777216)
    (q : ∀ ps : List PyData, ps.length = xs.length → (∀ p ∈ ps, R p) → Q (.py (.list (acc ++ ps)))) : lcGo g tt te Q (xs.map D.py) acc ρ :=
  lc_rel (fun _ p => R p) h hl fun ps e r => q ps e fun p hp => by
    obtain ⟨i, hi⟩ := List.getElem?_of_mem hp
    have hlt : i < xs.length := by rw [← e]; exact (List.getElem?_eq_some_iff.mp hi).1
    exact r i xs[i] p (List.getElem?_eq_getElem hlt) hi
end
section
variable {g : VTg} {tb : VS} {De : VEnds}
/-- a loop by its turns: Iv ahead of turn i -/
theorem for_inv (Iv : Nat → VEnv → Prop) {xs : List PyData} (h : ∀ i x ρ, xs[i]? = some x → Iv i ρ → ∀ nx ct : VEnv → Prop, (∀ ρ', Iv (i + 1) ρ' → nx ρ' ∧ ct ρ') → g (.py x) ρ fun ρ1 => tb ρ1 ⟨nx, De.rt, De.nx, ct, De.ex⟩) (hd : ∀ ρ, Iv xs.length ρ → De.nx ρ) :
    ∀ {ρ : VEnv}, Iv 0 ρ → forGo g tb (xs.map D.py) ρ De := by
  have go : ∀ (n : Nat) (ρ : VEnv), Iv n ρ → n ≤ xs.length → forGo g tb ((xs.drop n).map D.py) ρ De := by
    intro n
    induction hk : xs.length - n generalizing n with
    | zero =>
      intro ρ iv hn
      have e : n = xs.length := by omega
      subst e
      rw [List.drop_length]
      exact hd ρ iv
    | succ m ih =>
      intro ρ iv hn
      have hlt : n < xs.length := by omega
      rw [List.drop_eq_getElem_cons hlt, List.map_cons]
      exact h n xs[n] ρ (List.getElem?_eq_getElem hlt) iv _ _ fun ρ' iv' => ⟨ih (n + 1) (by omega) ρ' iv' hlt, ih (n + 1) (by omega) ρ' iv' hlt⟩
  intro ρ iv
  have := go 0 ρ iv (Nat.zero_le _)
  rwa [List.drop_zero] at this
end
/-! ### plain data -/
@[simp] theorem eqv_lnil (xs : List PyData) : (PyData.list xs).eqv (.list []) = xs.isEmpty := by cases xs <;> rfl
@[simp] theorem eqv_tnil (xs : List PyData) : (PyData.tuple xs).eqv (.tuple []) = xs.isEmpty := by cases xs <;> rfl
@[simp] theorem eqv_lt (xs ys : List PyData) : (PyData.list xs).eqv (.tuple ys) = false := rfl
@[simp] theorem eqv_tl (xs ys : List PyData) : (PyData.tuple xs).eqv (.list ys) = false := rfl
@[simp] theorem eqv_ii (i j : Int) : (PyData.int i).eqv (.int j) = (i == j) := rfl
@[simp] theorem eqv_ss (i j : Str) : (PyData.str i).eqv (.str j) = (i == j) := rfl
@[simp] theorem plain_none : PyData.none.plain = true := rfl
@[simp] theorem plain_bool (k : Bool) : (PyData.bool k).plain = true := rfl
@[simp] theorem plain_int (i : Int) : (PyData.int i).plain = true := rfl
@[simp] theorem plain_str (i : Str) : (PyData.str i).plain = true := rfl
@[simp] theorem plain_list (xs : List PyData) : (PyData.list xs).plain = PyData.plainAll xs := by simp only [PyData.plain]
@[simp] theorem plain_tuple (xs : List PyData) : (PyData.tuple xs).plain = PyData.plainAll xs := by simp only [PyData.plain]
@[simp] theorem plainAll_nil : PyData.plainAll [] = true := rfl
@[simp] theorem plainAll_cons (x : PyData) (xs : List PyData) : PyData.plainAll (x :: xs) = (x.plain && PyData.plainAll xs) := by simp only [PyData.plainAll]
@[simp] theorem plainAll_ints (xs : List Int) : PyData.plainAll (xs.map PyData.int) = true := plain_ints xs
@[simp] theorem depth_nil : (PyData.list []).depth = 1 := rfl
@[simp] theorem depth_tnil : (PyData.tuple []).depth = 1 := rfl
@[simp] theorem depth_int (i : Int) : (PyData.int i).depth = 0 := rfl
@[simp] theorem depth_str (i : Str) : (PyData.str i).depth = 0 := rfl
@[simp] theorem depth_none : PyData.none.depth = 0 := rfl
@[simp] theorem depth_bool (k : Bool) : (PyData.bool k).depth = 0 := rfl
@[simp] theorem depth_list (xs : List PyData) : (PyData.list xs).depth = PyData.depthAll xs + 1 := by simp only [PyData.depth]
@[simp] theorem depth_tuple (xs : List PyData) : (PyData.tuple xs).depth = PyData.depthAll xs + 1 := by simp only [PyData.depth]
@[simp] theorem depthAll_nil : PyData.depthAll [] = 0 := rfl
@[simp] theorem depthAll_cons (x : PyData) (xs : List PyData) : PyData.depthAll (x :: xs) = max x.depth (PyData.depthAll xs) := by simp only [PyData.depthAll]
end VL
namespace VL
open PySem PySem.Spec PyProof.Rows L2
@[simp] theorem cpow_iff (i j : Int) : CPow i j ↔ (0 ≤ j ∧ j ≤ 1000000 ∧ i.natAbs < 2 ^ 64) := Iff.rfl
@[simp] theorem cdivn_iff (i j : Int) : CDivN i j ↔ (j ≠ 0 ∧ j.natAbs < 1073741824) := Iff.rfl
@[simp] theorem cmul_iff (i j : Int) : CMul i j ↔ ((-(2 ^ 64) < i ∧ i < 2 ^ 64) ∨ (-(2 ^ 64) < j ∧ j < 2 ^ 64)) := Iff.rfl
end VL
namespace VL
open PySem PySem.Spec PyProof.Rows L2
theorem atI_ok {α : Type} {xs : List α} {i : Int} (h0 : 0 ≤ i) (h1 : i < xs.length) : ∃ d, atI xs i = some d ∧ d ∈ xs := by
  obtain ⟨j, rfl⟩ := Int.eq_ofNat_of_zero_le h0
  have hj : j < xs.length := by omega
  exact ⟨xs[j], atI_nat (List.getElem?_eq_getElem hj), List.getElem_mem hj⟩
@[simp] theorem rangeP_len (lo : Int) (n : Nat) : (rangeP lo n).length = n := by simp [rangeP]
end VL
set_option Elab.async false
set_option linter.all false
set_option maxRecDepth 100000
set_option maxHeartbeats 4000000
namespace VL
open PySem PySem.Spec PyProof.Rows L2
/-! ### the law: the first statement makes the bag, the rest is read over values -/
theorem pss_ex {X : Cx} {sts : List Stmt} {α : Type} {t : α → TS} (h : ∀ x, PSs X sts (t x)) : PSs X sts (fun D σ H => ∃ x, t x D σ H) := ⟨fun pins s σ H D I ⟨x, q⟩ => (h x).run pins s σ H D I q⟩
def spLaw (K : PySem.W.Frag) : Sp := fun vs H Q _ => ∃ (a : Addr) (ns : List Int), vs = [.ref a] ∧ SqL K H a (ns.map V.int) ∧ ns.length ≤ 63 ∧ ∀ H', Q (.bl true) H'
/-- the names' values behind the first statement: the bag in slot i -/
def envBag (n i : Nat) (r : Addr) : VEnv := (List.replicate n Slot.un).set i (.shr (.raw (.ref r)))
abbrev isTrue' : D → Prop := fun d => d = .py (.bool true)
theorem envBag_at {n i j : Nat} {r : Addr} {s : Slot} (h : (envBag n i r)[j]? = some s) : s = .un ∨ (j = i ∧ s = .shr (.raw (.ref r))) := by
  unfold envBag at h
  by_cases e : i = j
  · subst e
    by_cases hn : i < n
    · rw [List.getElem?_set_self (by simpa using hn)] at h; cases h; exact .inr ⟨rfl, rfl⟩
    · rw [List.getElem?_eq_none (by simp; omega)] at h; cases h
  · rw [List.getElem?_set_ne e, List.getElem?_replicate] at h
    split at h
    · cases h; exact .inl rfl
    · cases h
section
variable {P : Program} {w : World} {K : PySem.W.Frag} {mg : Str → Option Value} {base : Heap} {k k0 : Nat} {st : Stmt} {f fo : Addr} {fd fdo : FuncData} {N : List Str}
end
end VL
set_option Elab.async false
set_option linter.all false
set_option maxRecDepth 100000
set_option maxHeartbeats 4000000
namespace VL
open PySem PySem.Spec PyProof.Rows L2 HT
/-! ### slices as take and drop -/
theorem cutL_len {α : Type} (xs : List α) (lo hi : Option Int) : (cutL xs lo hi).length ≤ xs.length := by
  unfold cutL
  rw [List.length_take, List.length_drop]
  omega
theorem cutL_take {α : Type} (xs : List α) {x : Int} (h : 0 ≤ x) : cutL xs none (some x) = xs.take x.toNat := by
  simp only [cutL, HT.sIx]
  rw [if_neg (by omega), List.drop_zero, Nat.sub_zero]
  by_cases c : x.toNat ≤ xs.length
  · rw [Nat.min_eq_left c]
  · rw [Nat.min_eq_right (by omega), List.take_length, List.take_of_length_le (by omega)]
theorem cutL_drop {α : Type} (xs : List α) {x : Int} (h : 0 ≤ x) : cutL xs (some x) none = xs.drop x.toNat := by
  simp only [cutL, HT.sIx]
  rw [if_neg (by omega)]
  by_cases c : x.toNat ≤ xs.length
  · rw [Nat.min_eq_left c, List.take_of_length_le (by rw [List.length_drop]; omega)]
  · rw [Nat.min_eq_right (by omega), List.drop_length, List.take_nil, List.drop_of_length_le (by omega)]
end VL
set_option Elab.async false
set_option linter.all false
set_option maxRecDepth 100000
set_option maxHeartbeats 4000000
namespace VL
open PySem PySem.Spec PyProof.Rows L2 HT
/-! ### the facts of a def, for the join -/
structure DefK (K : PySem.W.Frag) (x : Str) (st : Stmt) : Prop where
  ex : ∃ (f : Addr) (oc kV doc pm cdv ct : Value) (od an : Option Addr) (osl : Array (Option Value)), PySem.W.nsIn K mainGlobals x = some (some (.ref f)) ∧ K.lookup f = some ⟨oc, od, .func (PySem.W.fnOf x x (defArgs st) (defBody st) (defScope st) .none kV doc pm an cdv ct), osl⟩ ∧ PySem.W.codeIn K cdv x = true ∧ PySem.W.keepIn K (.ref f) = true
theorem defK {K : PySem.W.Frag} {x : Str} {st : Stmt} {f : Addr} {oc kV doc pm cdv ct : Value} {od an : Option Addr} {osl : Array (Option Value)} (a : PySem.W.nsIn K mainGlobals x = some (some (.ref f)))
    (l : K.lookup f = some ⟨oc, od, .func (PySem.W.fnOf x x (defArgs st) (defBody st) (defScope st) .none kV doc pm an cdv ct), osl⟩) (c : PySem.W.codeIn K cdv x = true) (k : PySem.W.keepIn K (.ref f) = true) : DefK K x st := ⟨f, oc, kV, doc, pm, cdv, ct, od, an, osl, a, l, c, k⟩
theorem DefK.use {K : PySem.W.Frag} {x : Str} {st : Stmt} {h : Heap} {mg : Str → Option Value} (d : DefK K x st) (X : K.In h) (G : h.Ns mainGlobals mg) : ∃ (f : Addr) (fd : FuncData), Fun K x x st f fd ∧ mg x = some (.ref f) ∧ PySem.W.keepIn K (.ref f) = true ∧ fd.defaults = .none := by
  obtain ⟨f, oc, kV, doc, pm, cdv, ct, od, an, osl, a, l, c, k⟩ := d.ex
  exact ⟨f, _, fun_mk l c k, PySem.W.mg_of X G a, k, rfl⟩
end VL
set_option Elab.async false
set_option linter.all false
set_option maxRecDepth 100000
set_option maxHeartbeats 4000000
namespace VL
open PySem PySem.Spec PyProof.Rows L2 HT
/-! ### an owned list is changed by a method -/
def MutD (b : Bg) (r : V → List V → Hp → VK → Prop) (g : List PyData → List D → (D → List PyData → Prop) → Prop) : Prop :=
  ∀ (Z : Addr → Prop) (H : Hp) (a : Addr) (xs : List V) (vs : List V) (p : List PyData) (ds : List D) (Q : VK) (Qd : D → List PyData → Prop), H a = some (.lst xs) → Rqs Z H xs p → Rps b Z H vs ds → g p ds Qd →
    (∀ v ys q dv, Rqs Z H ys q → Rp b Z H v dv → Qd dv q → Q v (upd H a (.lst ys))) → r (.ref a) vs H Q
@[simp] def sMut (i : Nat) (g : List PyData → List D → (D → List PyData → Prop) → Prop) (ta : VA) : VS := fun ρ De => ∃ p, ρ[i]? = some (.own (.py (.list p))) ∧ ta ρ (fun ds => g p ds fun _ q => De.nx (ρ.set i (.own (.py (.list q))))) (De.ex ρ)
section
variable {X : Cx} {b : Bg} {W : WX} {o e : Expr} {es : List Expr} {ta : VA} {i : Nat} {name : Str} {id : String} {apos cpos pos : Pos} {r : V → List V → Hp → VK → Prop} {g : List PyData → List D → (D → List PyData → Prop) → Prop}
theorem vs_mut (slot : PySem.Slot "list" name id) (hty : typeOf (.builtin id) = pure (.type "method_descriptor")) (hm : MtR X id r) (hd : MutD b r g) (ho : PE X o (tVar i)) (ha : VAs X b W (e :: es) ta)
    (hbase : attributeBase o name X.env (eval o X.env) = eval o X.env := by rfl)
    (hfew : ((backTo cpos (starEach (e :: es) X.env)).all (fun x => !x.1) && (backToKw cpos (keywordEach [] X.env)).all (fun x => x.1.isSome)
      && decide ((e :: es).length + ([] : List Keyword).length + (if ([] : List Keyword).isEmpty then 0 else 1) < 30)) = true := by rfl)
    (hline : (apos.endLine == cpos.line) = true := by rfl) (hs : starEach (e :: es) X.env = (false, eval e X.env) :: starEach es X.env := by rfl) (hplain : (backTo cpos (starEach es X.env)).any (·.1) = false := by rfl)
    (hsw : swapsWith (.Call (.Attribute o name apos) (e :: es) [] cpos) none pos.line X.env = pure false := by rfl) :
    VSt X b W (.Expr (.Call (.Attribute o name apos) (e :: es) [] cpos) pos) (sMut i g ta) :=
  ps_mono (ps_expr (pe_bm PySem.F.plainAttrs_list slot hty hm ho ha hbase hfew hline hs hplain) hsw) fun Dn σ H ⟨H0, M, Zo, Z, ρ, De, f, ⟨p, e1, q⟩, l⟩ => by
    obtain ⟨a, h1, h2, h3, xs, h4, h5⟩ := f.v.own i _ e1
    refine ⟨.ref a, h1, .inl ⟨rfl, xs, SqL.of h4⟩, Zo, Z, ρ, _, _, f.v, q, fun vs H' ds x g1 r1 q' => ?_, l.er f⟩
    have f' := f.ex x g1
    obtain ⟨a', h1', h2', h3', xs', h4', h5'⟩ := f'.v.own i _ e1
    rw [h1] at h1'; cases h1'
    refine hd Z H' a xs' vs p ds _ _ h4' h5' r1 q' fun v ys pq dv ry rv q2 => ?_
    exact l.nx _ _ _ _ (f'.mut (d' := .py (.list pq)) e1 h1 ⟨ys, upd_same, ry.mono (fun c z => .inl z) fun c u e n => by
      rw [upd_ne (fun w => n (by rw [w]; exact h2))]
      exact e⟩) q2
/-- append -/
@[simp] def gApp : List PyData → List D → (D → List PyData → Prop) → Prop
  | p, [.py x], Q => p.length < sizeLine ∧ Q (.py .none) (p ++ [x])
  | _, _, _ => False
theorem rd_app : MutD b rAppend gApp := by
  intro Z H a xs vs p ds Q Qd h rx rv g k
  match ds, g, rv with
  | [.py x], ⟨hl, q⟩, .cons (v := v) rv .nil => exact ⟨a, xs, v, rfl, rfl, h, by rw [rx.length]; exact hl, k _ _ _ (.py .none) (rx.append (.cons rv .nil)) (Rq.non : Rq Z H .non .none) q⟩
theorem vs_app (ho : PE X o (tVar i)) (ha : VAs X b W [e] ta) (hbase : attributeBase o "append" X.env (eval o X.env) = eval o X.env := by rfl)
    (hfew : ((backTo cpos (starEach [e] X.env)).all (fun x => !x.1) && (backToKw cpos (keywordEach [] X.env)).all (fun x => x.1.isSome)
      && decide ([e].length + ([] : List Keyword).length + (if ([] : List Keyword).isEmpty then 0 else 1) < 30)) = true := by rfl)
    (hline : (apos.endLine == cpos.line) = true := by rfl) (hs : starEach [e] X.env = (false, eval e X.env) :: starEach [] X.env := by rfl) (hplain : (backTo cpos (starEach [] X.env)).any (·.1) = false := by rfl)
    (hsw : swapsWith (.Call (.Attribute o "append" apos) [e] [] cpos) none pos.line X.env = pure false := by rfl) :
    VSt X b W (.Expr (.Call (.Attribute o "append" apos) [e] [] cpos) pos) (sMut i gApp ta) :=
  vs_mut PySem.F.slot_list_append PySem.F.type_list_append mt_append rd_app ho ha hbase hfew hline hs hplain hsw
end
end VL
set_option Elab.async false
set_option linter.all false
set_option maxRecDepth 100000
set_option maxHeartbeats 4000000
namespace VL
open PySem PySem.Spec PyProof.Rows L2 HT
/-! ### dicts with keys int or text: read, get, put -/
def keyOf : PyData → Option Key
  | .int i => some (.inl i)
  | .str x => some (.inr x)
  | _ => none
@[simp] theorem keyOf_kD (k : Key) : keyOf (kD k) = some k := by cases k <;> rfl
def getD (ds : List (PyData × PyData)) (k : Key) : Option PyData := (ds.find? fun p => decide (keyOf p.1 = some k)).map (·.2)
def putD (ds : List (PyData × PyData)) (k : Key) (x : PyData) : List (PyData × PyData) :=
  if (ds.any fun p => decide (keyOf p.1 = some k)) = true then ds.map (fun p => if keyOf p.1 = some k then (p.1, x) else p) else ds ++ [(kD k, x)]
section
variable {Z : Addr → Prop} {H : Hp}
theorem Rqk.any {k : Key} : ∀ {kvs : List (Key × V)} {ds : List (PyData × PyData)}, Rqk Z H kvs ds → (kvs.any fun kv => decide (kv.1 = k)) = (ds.any fun p => decide (keyOf p.1 = some k))
  | _, _, .nil => rfl
  | _, _, .cons (k := k') r t => by
    rw [List.any_cons, List.any_cons, Rqk.any t]
    simp [-kD]
theorem Rqk.get {k : Key} : ∀ {kvs : List (Key × V)} {ds : List (PyData × PyData)}, Rqk Z H kvs ds → (valV kvs k = none ∧ getD ds k = none) ∨ ∃ v d, valV kvs k = some v ∧ getD ds k = some d ∧ Rq Z H v d
  | _, _, .nil => .inl ⟨rfl, rfl⟩
  | _, _, .cons (k := k') (v := v) (d := d) r t => by
    by_cases e : k' = k
    · exact .inr ⟨v, d, valV_pos e, by simp [-kD, getD, List.find?_cons, e], r⟩
    · have h1 : ∀ r, valV ((k', v) :: r) k = valV r k := fun r => valV_neg e
      have h2 : ∀ ds, getD ((kD k', d) :: ds) k = getD ds k := fun ds => by simp [-kD, getD, List.find?_cons, e]
      rcases Rqk.get (k := k) t with ⟨a, c⟩ | ⟨v', d', a, c, q⟩
      · exact .inl ⟨by rw [h1]; exact a, by rw [h2]; exact c⟩
      · exact .inr ⟨v', d', by rw [h1]; exact a, by rw [h2]; exact c, q⟩
theorem Rqk.map {k : Key} {v : V} {x : PyData} (rx : Rq Z H v x) : ∀ {kvs : List (Key × V)} {ds : List (PyData × PyData)}, Rqk Z H kvs ds → Rqk Z H (kvs.map fun kv => if kv.1 = k then (kv.1, v) else kv) (ds.map fun p => if keyOf p.1 = some k then (p.1, x) else p)
  | _, _, .nil => .nil
  | _, _, .cons (k := k') r t => by
    rw [List.map_cons, List.map_cons]
    by_cases e : k' = k
    · simp only [keyOf_kD, e, if_true]
      exact .cons rx (Rqk.map rx t)
    · simp only [keyOf_kD, Option.some.injEq, e, if_false]
      exact .cons r (Rqk.map rx t)
theorem Rqk.snoc {k : Key} {v : V} {x : PyData} (rx : Rq Z H v x) : ∀ {kvs : List (Key × V)} {ds : List (PyData × PyData)}, Rqk Z H kvs ds → Rqk Z H (kvs ++ [(k, v)]) (ds ++ [(kD k, x)])
  | _, _, .nil => .cons rx .nil
  | _, _, .cons r t => .cons r (Rqk.snoc rx t)
theorem Rqk.put {k : Key} {v : V} {x : PyData} {kvs : List (Key × V)} {ds : List (PyData × PyData)} (rx : Rq Z H v x) (t : Rqk Z H kvs ds) : Rqk Z H (putK kvs k v) (putD ds k x) := by
  unfold putK putD
  rw [t.any]
  split
  · exact t.map rx
  · exact t.snoc rx
end
end VL
set_option Elab.async false
set_option linter.all false
set_option maxRecDepth 100000
set_option maxHeartbeats 4000000
namespace VL
open PySem PySem.Spec PyProof.Rows L2 HT
section
variable {b : Bg} {Zo Z : Addr → Prop} {σ : L2.St} {H H' : Hp} {ρ : VEnv}
theorem VOk.rqk (v : VOk b Zo Z σ H ρ) (x : Ex b H H') {u : List (Key × V)} {d : List (PyData × PyData)} (r : Rqk Z H u d) : Rqk Z H' u d := r.mono (fun a z => .inl z) (v.keep x)
/-- a borrowed dict -/
theorem VOk.rdict (v : VOk b Zo Z σ H ρ) {u : V} {ds : List (PyData × PyData)} (r : Rb b Z H u (.py (.dict ds))) : ∃ a kvs, u = .ref a ∧ H a = some (.dK kvs) ∧ ¬ b.B a ∧ Rqk Z H kvs ds := by
  rcases r with r | ⟨a, e, nb, _, kvs, h, rk⟩
  · have r : Rq Z H u (.dict ds) := r
    cases r with
    | dct h n rk => exact ⟨_, _, rfl, h, v.nb n, rk⟩
  · exact ⟨a, kvs, e, h, nb, rk⟩
theorem Rq.key {u : V} {p : PyData} {k : Key} (r : Rq Z H u p) (e : keyOf p = some k) : u = kV k := by
  cases p <;> simp only [keyOf] at e <;> cases e
  · cases r; rfl
  · cases r; rfl
end
@[simp] def vDGet2 (td ty tx : VT) : VT := fun ρ Q E => td ρ (fun d => ∃ ds, d = .py (.dict ds) ∧ ty ρ (fun y => ∃ k kk, y = .py k ∧ keyOf k = some kk ∧ tx ρ (fun z => ∃ p, z = .py p ∧ Q (.py ((getD ds kk).getD p))) E) E) E
@[simp] def vDGet1 (td ty : VT) : VT := fun ρ Q E => td ρ (fun d => ∃ ds, d = .py (.dict ds) ∧ ty ρ (fun y => ∃ k kk, y = .py k ∧ keyOf k = some kk ∧ Q (.py ((getD ds kk).getD .none))) E) E
@[simp] def vDIx (td ty : VT) : VT := fun ρ Q E => td ρ (fun d => ∃ ds, d = .py (.dict ds) ∧ ty ρ (fun y => ∃ k kk x, y = .py k ∧ keyOf k = some kk ∧ getD ds kk = some x ∧ Q (.py x)) E) E
section
variable {X : Cx} {b : Bg} {W : WX} {o e f : Expr} {td ty tx : VT} {apos cpos pos pos' : Pos} {i : Nat}
theorem ve_dget2 (hu : X.A.units + 1 < cLine) (ho : VX X b W o td) (he : VE X b W e ty) (hf : VE X b W f tx) (m : M2 X o "get" apos e f cpos) : VE X b W (.Call (.Attribute o "get" apos) [e, f] [] cpos) (vDGet2 td ty tx) :=
  pe_mono (pe_dget2 hu ho he hf m) fun σ H Q ⟨Zo, Z, ρ, Qd, Ed, v, q, l, me⟩ => ⟨Zo, Z, ρ, _, Ed, v, q, fun x H1 d x1 g1 r1 ⟨ds, ed, q1⟩ => by
    subst ed
    have v1 := v.ex x1 g1
    obtain ⟨a, kvs, rfl, h, nb, rk⟩ := v1.rdict r1
    refine ⟨a, rfl, .inl ⟨kvs, .inl h⟩, Zo, Z, ρ, _, Ed, v1, q1, fun y H2 dy x2 g2 r2 ⟨k, kk, ey, ek, q2⟩ => ?_, fun c y H2 er x2 g2 r2 q2 => me c y H2 er (x1.trans x2) g2 r2 q2⟩
    subst ey
    have v2 := v1.ex x2 g2
    refine ⟨Zo, Z, ρ, _, Ed, v2, q2, fun z H3 dz x3 g3 r3 ⟨p, ez, q3⟩ => ?_, fun c y H3 er x3 g3 r3 q3 => me c y H3 er ((x1.trans x2).trans x3) g3 r3 q3⟩
    subst ez
    have x23 := x2.trans x3
    have h3 := x23 a _ h nb
    have rk3 := v1.rqk x23 rk
    have ek' : y = kV kk := Rq.key (Z := Z) r2 ek
    refine ⟨valV kvs kk, by rw [ek']; exact DGet.k h3, l _ H3 _ (x1.trans x23) g3 ?_ q3⟩
    rcases rk3.get (k := kk) with ⟨e1, e2⟩ | ⟨u, d', e1, e2, ru⟩
    · rw [e1, e2]; exact r3
    · rw [e1, e2]; exact ru, me⟩
/-- d[k] = x for an owned dict -/
@[simp] def sDPutO (i : Nat) (ty tv : VT) : VS := fun ρ De => ∃ ds, ρ[i]? = some (.own (.py (.dict ds))) ∧ tv ρ (fun x => ∃ p, x = .py p ∧ ty ρ (fun y => ∃ k kk, y = .py k ∧ keyOf k = some kk ∧ ds.length < sizeLine ∧ De.nx (ρ.set i (.own (.py (.dict (putD ds kk p)))))) (De.ex ρ)) (De.ex ρ)
theorem vs_dputO {tv : VT} {value : Expr} (hu : X.A.units + 1 < cLine) (ho : PE X o (tVar i)) (he : VE X b W e ty) (hv : VE X b W value tv) (hs : swapsWith value (some (.Subscript o e pos')) pos.line X.env = pure false := by rfl) :
    VSt X b W (.Assign [.Subscript o e pos'] value pos) (sDPutO i ty tv) :=
  ps_mono (ps_dput hu ho he hv hs) fun Dn σ H ⟨H0, M, Zo, Z, ρ, De, f, ⟨ds, e1, q⟩, l⟩ => by
    refine ⟨Zo, Z, ρ, _, _, f.v, q, fun v H1 dv x1 g1 r1 ⟨p, ep, q1⟩ => ?_, l.er f⟩
    subst ep
    have f1 := f.ex x1 g1
    obtain ⟨a, h1, h2, h3, kvs, h4, h5⟩ := f1.v.own i _ e1
    have nb : ¬ b.B a := fun z => h3 (f1.v.zb a z)
    refine ⟨.ref a, h1, Zo, Z, ρ, _, _, f1.v, q1, fun y H2 dy x2 g2 r2 ⟨k, kk, ey, ek, hl, q2⟩ => ?_, l.er f1⟩
    subst ey
    have f2 := f1.ex x2 g2
    have ek' : y = kV kk := Rq.key (Z := Z) r2 ek
    have h4' := x2 a _ h4 nb
    have h5' := f1.v.rqk x2 h5
    refine ⟨a, _, rfl, by rw [ek']; exact DPut.k h4' (by rw [h5.length]; exact hl), l.nx _ _ _ _ (f2.mut (d' := .py (.dict (putD ds kk p))) e1 h1 ⟨_, upd_same, ?_⟩) q2⟩
    exact (h5'.put (f1.v.rq x2 r1)).mono (fun c z => .inl z) fun c u e n => by
      rw [upd_ne (fun w => n (by rw [w]; exact h2))]
      exact e
end
end VL
set_option Elab.async false
set_option linter.all false
set_option maxRecDepth 100000
set_option maxHeartbeats 4000000
namespace VL
open PySem PySem.Spec PyProof.Rows L2 HT
/-- a constant of the module that is a text -/
theorem ve_gstr {X : Cx} {b : Bg} {W : WX} {pos : Pos} {x : Str} {i : Str} (hg : Gl X x) (hm : ∃ t, X.mg x = some (.str i t)) (hd : (x == ("__debug__" : Str)) = false := by decide) : VE X b W (.Name x pos) (vC (.py (.str i))) := by
  obtain ⟨t, h⟩ := hm
  exact ve_glob (v := .str i) hg h ⟨t, rfl⟩ (fun _ _ => .str i) hd
end VL
set_option Elab.async false
set_option linter.all false
set_option maxRecDepth 100000
set_option maxHeartbeats 4000000
namespace VL
open PySem PySem.Spec PyProof.Rows L2 HT
/-! ### typed data -/
def pN (n : Nat) : PyData := .int (n : Int)
def oN : Option Nat → PyData
  | none => .none
  | some n => .int (n : Int)
@[simp] def tI (gs : List Int) : PyData := .tuple (gs.map PyData.int)
@[simp] def tN (ns : List Nat) : PyData := .tuple (ns.map pN)
theorem map_inj {α β : Type} {f : α → β} (h : ∀ a b, f a = f b → a = b) : ∀ {xs ys : List α}, xs.map f = ys.map f ↔ xs = ys
  | [], [] => ⟨fun _ => rfl, fun _ => rfl⟩
  | [], _ :: _ => by simp
  | _ :: _, [] => by simp
  | x :: xs, y :: ys => by
    rw [List.map_cons, List.map_cons, List.cons.injEq, List.cons.injEq, map_inj h]
    exact ⟨fun ⟨a, b⟩ => ⟨h _ _ a, b⟩, fun ⟨a, b⟩ => ⟨by rw [a], b⟩⟩
theorem pN_inj (a b : Nat) (e : pN a = pN b) : a = b := by unfold pN at e; injection e with e; omega
@[simp] theorem pN_eq {a b : Nat} : pN a = pN b ↔ a = b := ⟨pN_inj a b, fun e => by rw [e]⟩
@[simp] theorem mapI_inj {xs ys : List Int} : xs.map PyData.int = ys.map PyData.int ↔ xs = ys := map_inj fun a b e => by injection e
@[simp] theorem mapN_inj {xs ys : List Nat} : xs.map pN = ys.map pN ↔ xs = ys := map_inj pN_inj
theorem tN_inj {xs ys : List Nat} : tN xs = tN ys ↔ xs = ys := ⟨fun e => by unfold tN at e; injection e with e; exact mapN_inj.mp e, fun e => by rw [e]⟩
@[simp] theorem oN_inj {a b : Option Nat} : oN a = oN b ↔ a = b := by
  cases a <;> cases b <;> simp [oN]
  omega
theorem atI_map {α β : Type} {f : α → β} {xs : List α} {k : Nat} {x : α} (h : xs[k]? = some x) : atI (xs.map f) (k : Int) = some (f x) := atI_nat (by rw [List.getElem?_map, h]; rfl)
theorem enumP_len (xs : List PyData) : (enumP xs).length = xs.length := by simp [enumP]
theorem enumP_getD {α : Type} {f : α → PyData} {xs : List α} {k : Nat} {d : PyData} (h : (enumP (xs.map f))[k]? = some d) : ∃ x, xs[k]? = some x ∧ d = .tuple [.int (k : Nat), f x] := by
  obtain ⟨x, h1, h2⟩ := enumP_get h
  rw [List.getElem?_map] at h1
  cases e : xs[k]? with
  | none => rw [e] at h1; cases h1
  | some y => rw [e] at h1; cases h1; exact ⟨y, rfl, h2⟩
theorem take_succ_get {α : Type} {xs : List α} {k : Nat} {x : α} (h : xs[k]? = some x) : xs.take (k + 1) = xs.take k ++ [x] := by
  rw [List.take_add_one, h]; rfl
end VL
namespace VL
open PySem PySem.Spec PyProof.Rows L2 HT
theorem putD_len (ds : List (PyData × PyData)) (k : Key) (x : PyData) : (putD ds k x).length ≤ ds.length + 1 := by
  unfold putD
  split
  · simp
  · simp
theorem getD_putD (ds : List (PyData × PyData)) (k j : Key) (x : PyData) : getD (putD ds k x) j = if j = k then some x else getD ds j := by
  unfold putD
  split
  · rename_i h
    have e : ∀ l : List (PyData × PyData), getD (l.map fun p => if keyOf p.1 = some k then (p.1, x) else p) j = if j = k then (if (l.any fun p => decide (keyOf p.1 = some k)) = true then some x else none) else getD l j := by
      intro l
      induction l with
      | nil => simp [getD]
      | cons p l ih =>
        unfold getD at ih ⊢
        rw [List.map_cons, List.any_cons, List.find?_cons]
        by_cases c : keyOf p.1 = some k
        · by_cases d : j = k
          · subst d; simp [c]
          · have d' : ¬ (some k = some j) := fun z => d (by cases z; rfl)
            have d'' : ¬ (k = j) := fun z => d z.symm
            simp [c, d, d', d''] at ih ⊢
            simpa [c, d, d', d''] using ih
        · by_cases d : keyOf p.1 = some j
          · have d' : ¬ j = k := fun z => c (by rw [d, z])
            simp [c, d, d']
          · have c' : decide (keyOf p.1 = some k) = false := decide_eq_false c
            have d' : decide (keyOf p.1 = some j) = false := decide_eq_false d
            rw [if_neg c, d', List.find?_cons, c', Bool.false_or]
            simp only [d']
            exact ih
    rw [e, h]; simp
  · rename_i h
    unfold getD
    rw [List.find?_append]
    by_cases d : j = k
    · subst d
      have hn : ds.find? (fun p => decide (keyOf p.1 = some j)) = none := by
        rw [List.find?_eq_none]
        intro p hp hc
        exact h (List.any_eq_true.mpr ⟨p, hp, hc⟩)
      simp [hn, -kD]
    · have d' : ¬ (k = j) := fun z => d z.symm
      simp [d, d', -kD]
@[simp] theorem getD_nil (k : Key) : getD [] k = none := rfl
end VL
set_option Elab.async false
set_option linter.all false
set_option maxRecDepth 100000
set_option maxHeartbeats 4000000
namespace VL
open PySem PySem.Spec PyProof.Rows L2
/-! ### data that is shown in few signs -/
structure Sw (w d : Nat) (p : PyData) : Prop where
  sh : p.showable = true
  ls : p.leavesShort 60 = true
  wt : p.weight ≤ w
  dp : p.depth ≤ d
instance (w d : Nat) (p : PyData) : Decidable (Sw w d p) := decidable_of_iff (p.showable = true ∧ p.leavesShort 60 = true ∧ p.weight ≤ w ∧ p.depth ≤ d) ⟨fun ⟨a, b, c, e⟩ => ⟨a, b, c, e⟩, fun ⟨a, b, c, e⟩ => ⟨a, b, c, e⟩⟩
end VL
set_option Elab.async false
set_option linter.all false
set_option maxRecDepth 100000
set_option maxHeartbeats 4000000
namespace VL
open PySem PySem.Spec PyProof.Rows L2 HT
/-! ### comprehensions and loops over encoded lists -/
section
variable {g : VTg} {tt : VB} {te : VT} {ρ : VEnv} {Q : D → Prop} {α : Type}
theorem lc_enc (enc : α → PyData) (f : α → Option PyData) : ∀ {L : List α} {acc : List PyData}, (∀ (i : Nat) (x : α), L[i]? = some x → ∀ k, k (f x) → lcStep g tt te (.py (enc x)) ρ k) → acc.length + L.length < 16777216 → Q (.py (.list (acc ++ L.filterMap f))) → lcGo g tt te Q ((L.map enc).map D.py) acc ρ
  | [], acc, _, _, q => by simpa using q
  | x :: xs, acc, h, hl, q => by
    refine lcGo_cons (h 0 x rfl _ ?_)
    have hr : ∀ (i : Nat) (y : α), xs[i]? = some y → ∀ k, k (f y) → lcStep g tt te (.py (enc y)) ρ k := fun i y hy => h (i + 1) y (by simpa using hy)
    rw [List.length_cons] at hl
    rw [List.filterMap_cons] at q
    cases e : f x with
    | none => rw [e] at q; exact lc_enc enc f hr (by omega) q
    | some p =>
      rw [e] at q
      refine ⟨by rw [szl]; omega, lc_enc enc f hr (by rw [List.length_append, List.length_singleton]; omega) ?_⟩
      rw [List.append_assoc]
      exact q
theorem filterMap_if (p : α → Bool) (e : α → PyData) : ∀ L : List α, L.filterMap (fun x => if p x = true then some (e x) else none) = (L.filter p).map e
  | [] => rfl
  | x :: xs => by
    rw [List.filterMap_cons, filterMap_if p e xs, List.filter_cons]
    cases p x <;> simp
theorem lc_encF (enc : α → PyData) (p : α → Bool) (e : α → PyData) {L : List α} (h : ∀ (i : Nat) (x : α), L[i]? = some x → ∀ k, (p x = true → k (some (e x))) → (p x = false → k none) → lcStep g tt te (.py (enc x)) ρ k)
    (hl : L.length < 16777216) (q : Q (.py (.list ((L.filter p).map e)))) : lcGo g tt te Q ((L.map enc).map D.py) [] ρ := by
  refine lc_enc enc (fun x => if p x = true then some (e x) else none) (fun i x hx k hk => h i x hx k (fun c => by simpa [c] using hk) (fun c => by simpa [c] using hk)) (by simpa using hl) ?_
  rw [filterMap_if, List.nil_append]
  exact q
theorem lc_encM (enc : α → PyData) (e : α → PyData) {L : List α} (h : ∀ (i : Nat) (x : α), L[i]? = some x → ∀ k, k (some (e x)) → lcStep g tt te (.py (enc x)) ρ k)
    (hl : L.length < 16777216) (q : Q (.py (.list (L.map e)))) : lcGo g tt te Q ((L.map enc).map D.py) [] ρ := by
  refine lc_enc enc (fun x => some (e x)) h (by simpa using hl) ?_
  rw [List.nil_append, List.filterMap_eq_map']
  exact q
end
section
variable {g : VTg} {tb : VS} {De : VEnds} {α : Type}
theorem for_enc (enc : α → PyData) (Iv : Nat → VEnv → Prop) {L : List α} {ρ : VEnv} (h0 : Iv 0 ρ) (h : ∀ i x ρ, L[i]? = some x → Iv i ρ → ∀ nx ct : VEnv → Prop, (∀ ρ', Iv (i + 1) ρ' → nx ρ' ∧ ct ρ') → g (.py (enc x)) ρ fun ρ1 => tb ρ1 ⟨nx, De.rt, De.nx, ct, De.ex⟩) (hd : ∀ ρ, Iv L.length ρ → De.nx ρ) :
    forGo g tb ((L.map enc).map D.py) ρ De := by
  refine for_inv Iv (fun i x ρ hx iv nx ct hn => ?_) (fun ρ iv => hd ρ (by simpa using iv)) h0
  rw [List.getElem?_map] at hx
  cases e : L[i]? with
  | none => rw [e] at hx; cases hx
  | some y => rw [e] at hx; cases hx; exact h i y ρ e iv nx ct hn
end
def encR (lo : Int) (k : Nat) : PyData := .int (lo + (k : Nat))
theorem rangeP_eq (lo : Int) (n : Nat) : rangeP lo n = (List.range n).map (encR lo) := rfl
@[simp] theorem encR0 (k : Nat) : encR 0 k = .int (k : Int) := by unfold encR; rw [Int.zero_add]
theorem encR_eq (lo : Int) (k : Nat) : encR lo k = .int (lo + (k : Nat)) := rfl
def encE {α : Type} (enc : α → PyData) (p : α × Nat) : PyData := .tuple [.int (p.2 : Nat), enc p.1]
@[simp] theorem encE_eq {α : Type} (enc : α → PyData) (x : α) (n : Nat) : encE enc (x, n) = .tuple [.int (n : Nat), enc x] := rfl
theorem enumP_enc {α : Type} (enc : α → PyData) (L : List α) : enumP (L.map enc) = L.zipIdx.map (encE enc) := by
  unfold enumP encE
  rw [List.zipIdx_map, List.map_map]
  rfl
theorem range_get {n i x : Nat} (h : (List.range n)[i]? = some x) : x = i ∧ i < n := by
  have hi : i < n := by have := (List.getElem?_eq_some_iff.mp h).1; simpa using this
  rw [List.getElem?_range hi] at h
  cases h
  exact ⟨rfl, hi⟩
end VL
set_option Elab.async false
set_option linter.all false
set_option maxRecDepth 100000
set_option maxHeartbeats 4000000
namespace VL
open PySem PySem.Spec PyProof.Rows L2 HT
/-! ### methods of values -/
def TyIs (X : Cx) (T : String) (x : V) (H : Hp) : Prop := ∀ (pins : List (Addr × Obj)) (σ : L2.St) (s : Shared) (v : Value), Inv X pins σ H s → RelV x v → s.TypeIs v T ∧ ∀ a, v = .ref a → ∃ ob, s.heap.get? a = some ob ∧ ob.dict = none
def AltOk (X : Cx) (name : Str) (x : V) (H : Hp) (r : V → List V → Hp → VK → Prop) : Prop := ∃ T id, PlainAttrs T ∧ PySem.Slot T name id ∧ typeOf (.builtin id) = pure (.type "method_descriptor") ∧ MtR X id r ∧ TyIs X T x H
def tBMx (X : Cx) (name : Str) (to : TE) (t : TA) : TE := fun σ H Q => to σ H fun x H1 => ∃ r, AltOk X name x H1 r ∧ t σ H1 fun xs H2 => r x xs H2 Q
theorem pe_bmx {X : Cx} {o e : Expr} {es : List Expr} {to : TE} {t : TA} {name : Str} {apos cpos : Pos} (ho : PE X o to) (ha : PA X (e :: es) t)
    (hbase : attributeBase o name X.env (eval o X.env) = eval o X.env := by rfl)
    (hfew : ((backTo cpos (starEach (e :: es) X.env)).all (fun x => !x.1) && (backToKw cpos (keywordEach [] X.env)).all (fun x => x.1.isSome)
      && decide ((e :: es).length + ([] : List Keyword).length + (if ([] : List Keyword).isEmpty then 0 else 1) < 30)) = true := by rfl)
    (hline : (apos.endLine == cpos.line) = true := by rfl) (hs : starEach (e :: es) X.env = (false, eval e X.env) :: starEach es X.env := by rfl) (hplain : (backTo cpos (starEach es X.env)).any (·.1) = false := by rfl) :
    PE X (.Call (.Attribute o name apos) (e :: es) [] cpos) (tBMx X name to t) := by
  refine ⟨fun pins s σ H Q I h => ?_⟩
  refine wpAny_Call_method_late hbase hfew hline rfl (thn (ho.run pins s σ H _ I h) fun v s1 ⟨x, H1, I1, r1, r, ⟨T, id, pa, slot, hty, hm, ty⟩, q1⟩ => ?_)
  obtain ⟨h1, h2⟩ := ty pins σ s1 v I1 r1
  refine ⟨T, id, pa, slot, hty, h1, h2, ?_⟩
  have hA := ha.run cpos pins s1 σ H1 _ I1 q1
  rw [hs] at hA ⊢
  refine Calls.callWith_builtin (by show (false || (backTo cpos (starEach es X.env)).any (·.1)) = false; rw [hplain] <;> rfl) (Calls.evalArgs_plain ?_)
  exact thn hA fun us s2 ⟨vs, H2, I2, r2, q2⟩ => hm pins s2 σ H2 x vs v us Q I2 r1 r2 q2
section
variable {X : Cx} {H : Hp}
theorem ty_str (z : Str) : TyIs X "str" (.str z) H := fun pins σ s v I r => by
  obtain ⟨t, rfl⟩ := r
  exact ⟨typeIs_str s z t, fun _ e => nomatch e⟩
theorem ty_lst {a : Addr} {xs : List V} (e : H a = some (.lst xs)) : TyIs X "list" (.ref a) H := fun pins σ s v I r => by
  cases r
  obtain ⟨its, _, pl, _⟩ := I.list (SqL.of e)
  refine ⟨pl.isList.typeIs, fun a e => ?_⟩
  cases e
  obtain ⟨o, n, e, c, hd, _⟩ := pl
  exact ⟨o, e, hd⟩
theorem ty_tup {a : Addr} {o : Obj} {xs : List V} (e : H a = some (HO.th o xs)) (hd : o.dict = none) : TyIs X "tuple" (.ref a) H := fun pins σ s v I r => by
  cases r
  obtain ⟨h1, _, its, _, ho⟩ := I.hok a _ e
  obtain ⟨o', e', hc, _⟩ := ho
  refine ⟨⟨o', e', hc⟩, fun b eb => ?_⟩
  cases eb
  exact ⟨o, h1, hd⟩
end
/-- a method over values: k says for which receivers it is there -/
def MetX (X : Cx) (b : Bg) (R : (Addr → Prop) → Hp → Hp → V → D → Prop) (name : Str) (k : D → Prop) (g : D → List D → (D → Prop) → Prop) : Prop :=
  ∀ (Z : Addr → Prop) (H : Hp) (x : V) (d : D), Gd b Z H → Rb b Z H x d → k d → ∃ r, AltOk X name x H r ∧ ∀ (H' : Hp) (xs : List V) (ds : List D) (Q : VK) (Qd : D → Prop), Ex b H H' → Gd b Z H' → Rb b Z H' x d → Rbs b Z H' xs ds → g d ds Qd →
    (∀ v H2 e, Ex b H' H2 → b.G H2 → R Z H' H2 v e → Qd e → Q v H2) → r x xs H' Q
@[simp] def vMth (k : D → Prop) (g : D → List D → (D → Prop) → Prop) (to : VT) (ta : VA) : VT := fun ρ Q E => to ρ (fun d => k d ∧ ta ρ (fun ds => g d ds Q) E) E
section
variable {X : Cx} {b : Bg} {W : WX} {o e : Expr} {es : List Expr} {to : VT} {ta : VA} {name : Str} {apos cpos : Pos} {k : D → Prop} {g : D → List D → (D → Prop) → Prop}
theorem coreM {R : (Addr → Prop) → Hp → Hp → V → D → Prop} (hR : ∀ Z H H1 H2 v d, b.G H1 → Ex b H H1 → R Z H1 H2 v d → R Z H H2 v d) (hd : MetX X b R name k g) :
    ∀ σ H Q, LE b W R (vMth k g to ta) σ H Q → tBMx X name (LE b W (fun Z _ H v d => Rb b Z H v d) to) (LAX b W ta) σ H Q :=
  fun σ H Q ⟨Zo, Z, ρ, Qd, Ed, v, q, l, m⟩ => ⟨Zo, Z, ρ, _, Ed, v, q, fun x H1 d x1 g1 r1 ⟨kd, q1⟩ => by
    have v1 := v.ex x1 g1
    obtain ⟨r, al, rr⟩ := hd Z H1 x d v1.gd r1 kd
    exact ⟨r, al, Zo, Z, ρ, _, Ed, v1, q1, fun xs H2 ds x2 g2 r2 q2 => rr H2 xs ds Q Qd x2 (v1.ex x2 g2).gd (r1.ex (v1.keep x2) x2) r2 q2 fun u H3 d3 x3 g3 r3 q3 => l u H3 d3 ((x1.trans x2).trans x3) g3 (hR _ _ _ _ _ _ g2 (x1.trans x2) r3) q3,
      fun c z H2 er x2 g2 r2 q2 => m c z H2 er (x1.trans x2) g2 r2 q2⟩, m⟩
theorem ve_mth (hd : MetX X b (RE b) name k g) (ho : VX X b W o to) (ha : VXs X b W (e :: es) ta)
    (hbase : attributeBase o name X.env (eval o X.env) = eval o X.env := by rfl)
    (hfew : ((backTo cpos (starEach (e :: es) X.env)).all (fun x => !x.1) && (backToKw cpos (keywordEach [] X.env)).all (fun x => x.1.isSome)
      && decide ((e :: es).length + ([] : List Keyword).length + (if ([] : List Keyword).isEmpty then 0 else 1) < 30)) = true := by rfl)
    (hline : (apos.endLine == cpos.line) = true := by rfl) (hs : starEach (e :: es) X.env = (false, eval e X.env) :: starEach es X.env := by rfl) (hplain : (backTo cpos (starEach es X.env)).any (·.1) = false := by rfl) :
    VE X b W (.Call (.Attribute o name apos) (e :: es) [] cpos) (vMth k g to ta) := pe_mono (pe_bmx ho ha hbase hfew hline hs hplain) (coreM hRE hd)
end
/-! ### texts -/
@[simp] def isS : D → Prop
  | .py (.str _) => True
  | _ => False
theorem isS_ex : ∀ {d : D}, isS d → ∃ z, d = .py (.str z)
  | .py (.str z), _ => ⟨z, rfl⟩
/-- how often c stands in l: of one sign -/
@[simp] def gTCount : D → List D → (D → Prop) → Prop
  | .py (.str a), [.py (.str b)], Q => Q (.py (.int (Txt.count a b)))
  | _, _, _ => False
@[simp] def gTJoin : D → List D → (D → Prop) → Prop
  | .py (.str a), [.py (.list xs)], Q => ∃ ys, allS xs = some ys ∧ (ys.map (·.length)).sum + ys.length * a.length ≤ 16777216 ∧ Q (.py (.str (Txt.join a ys)))
  | _, _, _ => False
theorem mx_join {X : Cx} {b : Bg} : MetX X b (RE b) "join" isS gTJoin := fun Z H x d gd rx kd => by
  obtain ⟨z, rfl⟩ := isS_ex kd
  obtain rfl := rx.str
  refine ⟨_, ⟨"str", _, PySem.F.plainAttrs_str, PySem.F.slot_str_join, PySem.F.type_str_join, mt_join, ty_str z⟩, fun H' xs ds Q Qd _ gd' _ rs h k => ?_⟩
  match ds, h, rs with
  | [.py (.list ps)], ⟨ys, e, hl, h⟩, .cons r .nil =>
    obtain ⟨a, us, rfl, ha, qa⟩ := r.list
    rw [allS_of e] at qa
    have eu := qa.strs
    subst eu
    exact ⟨z, a, ys, rfl, rfl, .inl (SqL.of ha), hl, k _ H' (.py (.str _)) Ex.refl gd'.g (.str _) h⟩
@[simp] def gTUpper : D → List D → (D → Prop) → Prop
  | .py (.str a), [], Q => a.length ≤ 5592405 ∧ Q (.py (.str (Txt.upper a)))
  | _, _, _ => False
@[simp] def gTSplit : D → List D → (D → Prop) → Prop
  | .py (.str a), [.py (.str b)], Q => (b.length == 0) = false ∧ a.length + 2 ≤ 16777216 ∧ Q (.py (.list ((Txt.split a b).map PyData.str)))
  | _, _, _ => False
end VL
set_option Elab.async false
set_option linter.all false
set_option maxRecDepth 100000
set_option maxHeartbeats 4000000
namespace VL
open PySem PySem.Spec PyProof.Rows L2 HT
/-! ### index by plain data -/
/-- the first place of an equal one -/
def ixOf : List PyData → PyData → Option Nat
  | [], _ => none
  | z :: zs, d => if z.eqv d = true then some 0 else (ixOf zs d).map (· + 1)
theorem ixOf_some : ∀ {ds : List PyData} {d : PyData} {j : Nat}, ixOf ds d = some j → ∃ z, ds[j]? = some z ∧ z.eqv d = true ∧ ∀ (m : Nat) (z' : PyData), m < j → ds[m]? = some z' → z'.eqv d = false
  | [], _, _, h => by cases h
  | z :: zs, d, j, h => by
    unfold ixOf at h
    split at h
    · rename_i c
      cases h
      exact ⟨z, rfl, c, fun m z' hm => by omega⟩
    · rename_i c
      cases e : ixOf zs d with
      | none => rw [e] at h; cases h
      | some i =>
        rw [e] at h
        cases h
        obtain ⟨y, h1, h2, h3⟩ := ixOf_some e
        refine ⟨y, by simpa using h1, h2, fun m z' hm hz => ?_⟩
        have hm' : m < i + 1 := hm
        cases m with
        | zero => simp at hz; subst hz; simpa using c
        | succ m => exact h3 m z' (by omega) (by simpa using hz)
section
variable {X : Cx}
def rIxP (tup : Bool) : V → List V → Hp → VK → Prop := fun x xs H Q => ∃ (a : Addr) (y : V) (d : PyData) (ds : List PyData) (j : Nat), x = .ref a ∧ xs = [y] ∧ Rq nz H (.ref a) (if tup = true then .tuple ds else .list ds) ∧ Rq nz H y d ∧ PyData.plainAll ds = true ∧ d.plain = true ∧
  (d.depth ≤ 60 ∨ PyData.depthAll ds ≤ 60) ∧ ixOf ds d = some j ∧ Q (.int (j : Nat)) H
theorem ix_at {s : Shared} {its : List Value} {ds : List PyData} {as : List Addr} {d : PyData} {j : Nat} (h4 : ReadsAll s.heap its ds as) (hp : PyData.plainAll ds = true) (hj : ixOf ds d = some j) :
    ∃ hjl : j < its.toArray.size, PyData.eqv (SeqAt.readOf s.heap its.toArray[j]) d = true ∧ ∀ m (hm : m < its.toArray.size), m < j → PyData.eqv (SeqAt.readOf s.heap its.toArray[m]) d = false := by
  obtain ⟨z, hz, h1, h2⟩ := ixOf_some hj
  have hn : its.length = ds.length := SeqAt.ReadsAll.length ds its as h4
  have hmap : its.map (SeqAt.readOf s.heap) = ds := SeqAt.readsAll_map_plain ds its as hp h4
  have at_ : ∀ (m : Nat) (hm : m < its.toArray.size) (z' : PyData), ds[m]? = some z' → SeqAt.readOf s.heap its.toArray[m] = z' := by
    intro m hm z' hz'
    have hml : m < its.length := by simpa using hm
    rw [← hmap, List.getElem?_map, List.getElem?_eq_getElem hml] at hz'
    have e1 : SeqAt.readOf s.heap its[m] = z' := Option.some.inj (show some (SeqAt.readOf s.heap its[m]) = some z' from hz')
    simpa using e1
  have hjd : j < ds.length := (List.getElem?_eq_some_iff.mp hz).1
  have hjl : j < its.toArray.size := by simp; omega
  refine ⟨hjl, by rw [at_ j hjl z hz]; exact h1, fun m hm hmj => ?_⟩
  have hz' : ds[m]? = some ds[m] := List.getElem?_eq_getElem (by omega)
  rw [at_ m hm _ hz']
  exact h2 m _ hmj hz'
theorem mt_ixL (hu : X.A.units + 65 < cLine) : MtR X "list.index" (rIxP false) := by
  intro pins s σ H x xs v us Q I rx rxs ⟨a, y, d, ds, j, ex, exs, hl, hy, pl, pd, hd, hj, q⟩
  subst ex exs
  cases rx
  obtain ⟨uy, rfl, ry⟩ := vals1 rxs
  obtain ⟨bs, r1, _⟩ := hy.reads I _ ry
  have hroom : X.A.units + 1 + min (PyData.depthAll ds) d.depth < cLine := by omega
  have hl : Rq nz H (.ref a) (.list ds) := hl
  cases hl with
  | lst e n ha =>
    obtain ⟨its, rv, ⟨⟨cls, dd, data, sls⟩, n, ho, hc, hdn, hdt⟩, hlen⟩ := I.list (SqL.of e)
    simp only at hc hdt
    subst hc hdt
    obtain ⟨as, h4, _⟩ := ha.reads I its rv
    obtain ⟨hjl, h1, h2⟩ := ix_at h4 pl hj
    have hsl := sizeLine_eq
    have hvl := rv.length
    have hjz : j < its.length := by simpa using hjl
    refine call_meets PySem.F.slot_list_index ⟨_, ho, rfl⟩ PySem.F.entry_list_index (PySem.F.args_list_index_2 _ _)
      (SeqAt.list_indexAt a its.toArray n dd sls uy (fun u => PyData.eqv (SeqAt.readOf s.heap u) d) j hjl (by omega) h1 h2) ⟨ho, SeqAt.items_plain (vs := its.toArray) (show ReadsAll s.heap its.toArray.toList ds as from h4) r1 pl pd hroom, ?_⟩
    exact ⟨.int (j : Nat), H, I.tok _, ⟨_, rfl⟩, q⟩
theorem mt_ixT (hu : X.A.units + 65 < cLine) : MtR X "tuple.index" (rIxP true) := by
  intro pins s σ H x xs v us Q I rx rxs ⟨a, y, d, ds, j, ex, exs, hl, hy, pl, pd, hd, hj, q⟩
  subst ex exs
  cases rx
  obtain ⟨uy, rfl, ry⟩ := vals1 rxs
  obtain ⟨bs, r1, _⟩ := hy.reads I _ ry
  have hroom : X.A.units + 1 + min (PyData.depthAll ds) d.depth < cLine := by omega
  have hl : Rq nz H (.ref a) (.tuple ds) := hl
  cases hl with
  | tup e _ n ha =>
    obtain ⟨its, rv, ⟨⟨cls, dd, data, sls⟩, ho, hc, n, hdt⟩, hlen⟩ := I.tuple (SqT.th e)
    simp only at hc hdt
    subst hc hdt
    obtain ⟨as, h4, _⟩ := ha.reads I its rv
    obtain ⟨hjl, h1, h2⟩ := ix_at h4 pl hj
    refine call_meets PySem.F.slot_tuple_index ⟨_, ho, rfl⟩ PySem.F.entry_tuple_index (PySem.F.args_tuple_index_2 _ _)
      (TI.tuple_indexAt a its.toArray n dd sls uy (fun u => PyData.eqv (SeqAt.readOf s.heap u) d) j hjl h1 h2) ⟨ho, SeqAt.items_plain (vs := its.toArray) (show ReadsAll s.heap its.toArray.toList ds as from h4) r1 pl pd hroom, ?_⟩
    exact ⟨.int (j : Nat), H, I.tok _, ⟨_, rfl⟩, q⟩
end
@[simp] def isSq : D → Prop
  | .py (.list _) => True
  | .py (.tuple _) => True
  | _ => False
@[simp] def gIndex : D → List D → (D → Prop) → Prop
  | .py (.list xs), [.py d], Q => PyData.plainAll xs = true ∧ d.plain = true ∧ (d.depth ≤ 60 ∨ PyData.depthAll xs ≤ 60) ∧ ∃ j, ixOf xs d = some j ∧ Q (.py (.int (j : Nat)))
  | .py (.tuple xs), [.py d], Q => PyData.plainAll xs = true ∧ d.plain = true ∧ (d.depth ≤ 60 ∨ PyData.depthAll xs ≤ 60) ∧ ∃ j, ixOf xs d = some j ∧ Q (.py (.int (j : Nat)))
  | _, _, _ => False
theorem mx_index {X : Cx} {b : Bg} (hu : X.A.units + 65 < cLine) : MetX X b (RE b) "index" isSq gIndex := fun Z H x d gd rx kd => by
  match d, kd, rx with
  | .py (.list ps), _, rx =>
    obtain ⟨a, us, rfl, ha, _⟩ := rx.list
    refine ⟨_, ⟨"list", _, PySem.F.plainAttrs_list, PySem.F.slot_list_index, PySem.F.type_list_index, mt_ixL hu, ty_lst ha⟩, fun H' xs ds Q Qd _ gd' rx' rs h k => ?_⟩
    match ds, h, rs with
    | [.py c], ⟨h1, h2, h3, j, h4, h⟩, .cons r .nil =>
      exact ⟨a, _, c, ps, j, rfl, rfl, rx'.q, r.q, h1, h2, h3, h4, k _ H' (.py (.int _)) Ex.refl gd'.g (.int _) h⟩
  | .py (.tuple ps), _, rx =>
    obtain ⟨a, o, us, rfl, ha, hd, _, _⟩ := rx.tuple
    refine ⟨_, ⟨"tuple", _, PySem.F.plainAttrs_tuple, PySem.F.slot_tuple_index, PySem.F.type_tuple_index, mt_ixT hu, ty_tup ha hd⟩, fun H' xs ds Q Qd _ gd' rx' rs h k => ?_⟩
    match ds, h, rs with
    | [.py c], ⟨h1, h2, h3, j, h4, h⟩, .cons r .nil =>
      exact ⟨a, _, c, ps, j, rfl, rfl, rx'.q, r.q, h1, h2, h3, h4, k _ H' (.py (.int _)) Ex.refl gd'.g (.int _) h⟩
/-- how often: of a text, of a list of ints -/
@[simp] def isCt : D → Prop
  | .py (.str _) => True
  | .py (.list _) => True
  | _ => False
@[simp] def gCount : D → List D → (D → Prop) → Prop
  | .py (.str a), [.py (.str b)], Q => Q (.py (.int (Txt.count a b)))
  | .py (.list xs), [.py (.int k)], Q => ∃ ns, allI xs = some ns ∧ Q (.py (.int (ns.count k : Nat)))
  | _, _, _ => False
end VL
set_option Elab.async false
set_option linter.all false
set_option maxRecDepth 100000
set_option maxHeartbeats 4000000
namespace VL
open PySem PySem.Spec PyProof.Rows L2 HT
/-! ### text * int, text[::-1] -/
def repS (z : Str) (k : Int) : Str := mkS (List.replicate k.toNat (sl z)).flatten
theorem mkS_sl (z : Str) : mkS (sl z) = z := by cases z; simp [mkS, sl]
@[simp] theorem sl_mkS (l : List Nat) : sl (mkS l) = l := by simp [mkS, sl]
@[simp] theorem len_mkS (l : List Nat) : (mkS l).length = l.length := by simp [mkS, Str.length]
theorem slen (z : Str) : (sl z).length = z.length := by simp [sl, Str.length]
def rRepS : R2 := fun x y H Q => ∃ z k, x = .str z ∧ y = .int k ∧ -(2 ^ 63) ≤ k ∧ k < 2 ^ 63 ∧ z.length * k.toNat ≤ 16777216 ∧ Q (.str (repS z k)) H
theorem foldl_app (n : Nat) (a b : Array Nat) : (List.replicate n a).foldl (· ++ ·) b = (b.toList ++ (List.replicate n a.toList).flatten).toArray := by
  induction n generalizing b with
  | zero => simp
  | succ n ih => rw [List.replicate_succ, List.foldl_cons, ih, List.replicate_succ, List.flatten_cons]; simp
theorem op_repS {X : Cx} : OpR X (binaryOp .Mult) rRepS := by
  intro pins s σ H x y v u Q I rx ry ⟨z, k, ex, ey, h1, h2, h3, q⟩
  subst ex ey
  obtain ⟨t, rfl⟩ := rx
  obtain ⟨t2, rfl⟩ := ry
  refine P.mul_str (by rw [decide_eq_false (by omega), decide_eq_false (by omega)]; rfl) (fun c c2 => ?_) (fun c c2 => ?_) ?_
  · intro hgt
    have kp : 0 < k := by omega
    have hz : (z.length : Int) * k ≤ 16777216 := by
      have e : ((z.length * k.toNat : Nat) : Int) ≤ 16777216 := by omega
      have e2 : ((k.toNat : Nat) : Int) = k := by omega
      rw [Int.natCast_mul, e2] at e
      exact e
    have h5 : ((2 ^ 63 - 1 : Int) / k + 1) * k > 2 ^ 63 - 1 := by
      have := Int.lt_ediv_add_one_mul_self (2 ^ 63 - 1) kp
      exact this
    have h6 : ((2 ^ 63 - 1 : Int) / k + 1) * k ≤ (z.length : Int) * k := Int.mul_le_mul_of_nonneg_right (by omega) (by omega)
    omega
  · unfold Builtin.Str.tooLong
    rw [sizeLine_eq]
    exact decide_eq_false (by omega)
  · by_cases c : k < 1
    · rw [if_pos c]
      refine ⟨by show 0 ≤ sizeLine; omega, .str Str.empty, H, I.tok _, ⟨_, rfl⟩, ?_⟩
      have e : repS z k = Str.empty := by
        unfold repS
        have : k.toNat = 0 := by omega
        rw [this]
        rfl
      rw [← e]; exact q
    · rw [if_neg c]
      split
      · rename_i c2
        have e : repS z k = z := by
          unfold repS
          rcases Bool.or_eq_true_iff.mp c2 with c3 | c3
          · have : k = 1 := eq_of_beq c3
            subst this
            show mkS (List.replicate 1 (sl z)).flatten = z
            simp [mkS_sl]
          · have hz : (sl z).length = 0 := by rw [slen]; exact eq_of_beq c3
            have hz' : sl z = [] := List.length_eq_zero_iff.mp hz
            rw [hz']
            have : (List.replicate k.toNat ([] : List Nat)).flatten = [] := by simp
            rw [this, ← hz', mkS_sl]
        refine ⟨.str z, H, I, ⟨_, rfl⟩, ?_⟩
        rw [← e]; exact q
      · refine ⟨?_, .str (repS z k), H, ?_⟩
        · show Array.size _ ≤ sizeLine
          rw [foldl_app, List.size_toArray]
          simp
          rw [Nat.mul_comm]
          have : z.cps.size = z.length := rfl
          rw [this]
          exact h3
        · have e : (⟨(List.replicate k.toNat z.cps).foldl (· ++ ·) #[]⟩ : Str) = repS z k := by
            rw [foldl_app]; rfl
          rw [e]
          exact ⟨I.tok _, ⟨_, rfl⟩, q⟩
def rBkS : V → Hp → VK → Prop := fun x H Q => ∃ z, x = .str z ∧ z.length ≤ 16777216 ∧ Q (.str (mkS (sl z).reverse)) H
theorem range_down (n : Nat) : Builtin.Str.strSliceIndices none none (-1) n = (List.range n).reverse := by
  have e : Builtin.Str.strSliceIndices none none (-1) n = sliceRange ((n : Int) - 1) (-1) (-1) := rfl
  rw [e]
  unfold sliceRange
  rw [if_neg (by omega)]
  dsimp only
  have c : (if (n : Int) - 1 > -1 then ((n : Int) - 1 - -1 - -1 - 1) / (- -1) else 0).toNat = n := by
    split
    · rw [Int.neg_neg, Int.ediv_one]; omega
    · omega
  rw [c, ← PySem.W.krv_range]
  refine List.map_congr_left fun m hm => ?_
  have := List.mem_range.mp hm
  omega
theorem pick_down (a : Array Nat) : ((List.range a.size).reverse.filterMap fun (i : Nat) => a[i]?) = a.toList.reverse := by
  rw [List.filterMap_reverse]
  congr 1
  have : (fun (i : Nat) => a[i]?) = (fun (i : Nat) => a.toList[i]?) := by funext i; simp
  rw [this]
  have h : ∀ (l : List Nat), (List.range l.length).filterMap (fun (i : Nat) => l[i]?) = l := by
    intro l
    apply List.ext_getElem?
    intro i
    have : (List.range l.length).filterMap (fun (i : Nat) => l[i]?) = l := by
      induction l with
      | nil => rfl
      | cons x l ih =>
        rw [List.length_cons, List.range_succ_eq_map, List.filterMap_cons, List.filterMap_map]
        simp
        exact ih
    rw [this]
  have := h a.toList
  rwa [Array.length_toList] at this
theorem bk_str {X : Cx} : BkR X rBkS := by
  intro pins s σ H x v tk sl' Q I rx hs ⟨z, ex, hz, q⟩
  subst ex
  obtain ⟨t, rfl⟩ := rx
  refine ⟨"str", _, F.slot_str_getitem.lookup, typeIs_str _ _ _, wpAny_getItem_str_slice (l := none) (u := none) (st := some (-1, tk)) hs rfl ?_⟩
  have e : (((slicePicked z none none (some (-1, tk))).filterMap (z.cps[·]?)).toArray : Array Nat) = (sl z).reverse.toArray := by
    unfold slicePicked
    show ((Builtin.Str.strSliceIndices none none (-1) z.length).filterMap _).toArray = _
    rw [range_down]
    exact congrArg List.toArray (pick_down z.cps)
  unfold sliceMade
  rw [if_neg (by simp), e]
  refine ⟨?_, .str (mkS (sl z).reverse), H, I.tok _, ⟨_, rfl⟩, q⟩
  show Array.size _ ≤ sizeLine
  rw [List.size_toArray, List.length_reverse, slen, sizeLine_eq]
  exact hz
section
variable {X : Cx} {b : Bg} {W : WX} {e e1 e2 st : Expr} {t t1 t2 : VT} {tl : VO} {p2 pos : Pos}
@[simp] def gBkA : D → (D → Prop) → Prop
  | .py (.list xs), Q => Q (.py (.list xs.reverse))
  | .py (.tuple xs), Q => Q (.py (.tuple xs.reverse))
  | .py (.str z), Q => z.length ≤ 16777216 ∧ Q (.py (.str (mkS (sl z).reverse)))
  | _, _ => False
@[simp] def vBkA (t : VT) (tl : VO) : VT := fun ρ Q E => t ρ (fun x => tl ρ (fun k => k = some (-1) ∧ gBkA x Q) E) E
theorem ve_backA (h : VX X b W e t) (h1 : VPt X b W (some st) tl) : VE X b W (.Subscript e (.Slice none none (some st) p2) pos) (vBkA t tl) :=
  pe_mono (pe_back ((bk_list.or bk_tup).or bk_str) h h1) fun σ H Q ⟨Zo, Z, ρ, Qd, Ed, v, q, l, m⟩ => ⟨Zo, Z, ρ, _, Ed, v, q, fun x H1 d x1 g1 r1 q1 => ⟨Zo, Z, ρ, _, Ed, v.ex x1 g1, q1, fun k H2 x2 g2 ⟨ek, q2⟩ => by
    refine ⟨ek, ?_⟩
    have v2 := (v.ex x1 g1).ex x2 g2
    have r2 := r1.ex ((v.ex x1 g1).keep x2) x2
    match d, q2, r2 with
    | .py (.list xs), q2, r2 =>
      obtain ⟨a, us, rfl, ha, qa⟩ := r2.list
      exact .inl (.inl ⟨a, us, rfl, SqL.of ha, fun p hp => l _ _ (.py (.list xs.reverse)) ((x1.trans x2).trans (Ex.new hp)) (Bg.new g2 hp) (Rq.lst upd_same (v2.fresh hp) (qa.reverse.up hp)) q2⟩)
    | .py (.tuple xs), q2, r2 =>
      obtain ⟨a, oa, us, rfl, ha, da, na, qa⟩ := r2.tuple
      exact .inl (.inr ⟨a, us, rfl, SqT.th ha, fun p o hp ho => l _ _ (.py (.tuple xs.reverse)) ((x1.trans x2).trans (Ex.new hp)) (Bg.new g2 hp) (Rq.tup upd_same ho (v2.fresh hp) (qa.reverse.up hp)) q2⟩)
    | .py (.str z), ⟨hz, q2⟩, r2 =>
      obtain rfl := r2.str
      exact .inr ⟨z, rfl, hz, l _ H2 (.py (.str _)) (x1.trans x2) g2 (.str _) q2⟩,
    fun c z H2 er x2 g2 r2 q2 => m c z H2 er (x1.trans x2) g2 r2 q2⟩, m⟩
/-- products, of a text too -/
@[simp] def gMulA : D → D → (D → Prop) → Prop
  | .py (.int i), .py (.int j), Q => CMul i j ∧ Q (.py (.int (i * j)))
  | .py (.list xs), .py (.int k), Q => (-(2 ^ 63) ≤ k ∧ k < 2 ^ 63 ∧ xs.length * k.toNat ≤ sizeLine) ∧ Q (.py (.list (List.replicate k.toNat xs).flatten))
  | .py (.tuple xs), .py (.int k), Q => (xs ≠ [] ∧ 2 ≤ k ∧ k ≤ 1000 ∧ xs.length ≤ 1000) ∧ Q (.py (.tuple (List.replicate k.toNat xs).flatten))
  | .py (.str z), .py (.int k), Q => (-(2 ^ 63) ≤ k ∧ k < 2 ^ 63 ∧ z.length * k.toNat ≤ 16777216) ∧ Q (.py (.str (repS z k)))
  | _, _, _ => False
theorem rd_mulA : OpD b (RE b) (fun x y H Q => (fun x y H Q => rI CMul (fun i j => .int (i * j)) x y H Q ∨ (fun x y H Q => rRep x y H Q ∨ rRepF X.K x y H Q) x y H Q) x y H Q ∨ rRepS x y H Q) gMulA := by
  intro Z H x y dx dy Q Qd gd rx ry h k
  match dx, dy, h, rx, ry with
  | .py (.int i), .py (.int j), h, rx, ry => exact .inl (rd_mul Z H x y (.py (.int i)) (.py (.int j)) Q Qd gd rx ry h k)
  | .py (.list xs), .py (.int n), h, rx, ry => exact .inl (rd_mul Z H x y (.py (.list xs)) (.py (.int n)) Q Qd gd rx ry h k)
  | .py (.tuple xs), .py (.int n), h, rx, ry => exact .inl (rd_mul Z H x y (.py (.tuple xs)) (.py (.int n)) Q Qd gd rx ry h k)
  | .py (.str z), .py (.int n), ⟨⟨h1, h2, h3⟩, h⟩, rx, ry =>
    obtain rfl := rx.str
    obtain rfl := ry.int
    exact .inr ⟨z, n, rfl, rfl, h1, h2, h3, k _ H (.py (.str _)) Ex.refl gd.g (.str _) h⟩
theorem ve_mulA (h1 : VX X b W e1 t1) (h2 : VX X b W e2 t2) : VE X b W (.BinOp e1 .Mult e2 pos) (vBin gMulA t1 t2) := ve_op (OpR.or (OpR.or op_mul (OpR.or op_rep op_repF)) op_repS) rd_mulA h1 h2
end
/-! ### name op= value -/
@[simp] def gAugAdd : D → D → (D → Prop) → Prop
  | .py (.int i), .py (.int j), Q => Q (.py (.int (i + j)))
  | .py (.str x), .py (.str y), Q => x.length + y.length ≤ 16777216 ∧ Q (.py (.str (x ++ y)))
  | _, _, _ => False
@[simp] def gAugSub : D → D → (D → Prop) → Prop
  | .py (.int i), .py (.int j), Q => Q (.py (.int (i - j)))
  | _, _, _ => False
@[simp] def sAugA (i : Nat) (g : D → D → (D → Prop) → Prop) (t : VT) : VS := fun ρ De => ∃ d0, ρ[i]? = some (.shr d0) ∧ t ρ (fun d => g d0 d fun z => De.nx (ρ.set i (.shr z))) (De.ex ρ)
section
variable {X : Cx} {b : Bg} {W : WX} {e : Expr} {t : VT} {pos pos' : Pos} {i : Nat} {x : Str}
theorem ip_addA : PIp X .Add (fun x y H Q => ipI (fun i j => i + j) x y H Q ∨ rAddS x y H Q) := fun pins s σ H x y v u Q I r1 r2 h => h.elim (ip_add pins s σ H x y v u Q I r1 r2) (in_addS pins s σ H x y v u Q I r1 r2)
theorem vs_augG {op : Operator} {ti : TIp} {g : D → D → (D → Prop) → Prop} (hp : PIp X op ti) (hg : ∀ (Z : Addr → Prop) (H : Hp) (u v : V) (d0 d : D) (Q : VK) (Qd : D → Prop), Rp b Z H u d0 → Rp b Z H v d → g d0 d Qd → (∀ w z, Rp b Z H w z → Qd z → Q w H) → ti u v H Q)
    (hN : X.N.Nodup) (hi : X.N[i]? = some x) (hx : Loc X.env.scope x) (he : VE X b W e t) (hf : X.fn x = true ∨ X.env.scope.names.lookup x = some .local := by first | exact .inl rfl | exact .inr rfl | assumption) :
    VSt X b W (.AugAssign (.Name x pos') op e pos) (sAugA i g t) :=
  ps_mono (ps_aug hN hi hx he hp hf) fun Dn σ H ⟨H0, M, Zo, Z, ρ, De, f, ⟨d0, e0, q⟩, l⟩ => by
    obtain ⟨u, hu, ru⟩ := f.v.shr i d0 e0
    refine ⟨u, hu, Zo, Z, ρ, _, _, f.v, q, fun v H1 d x1 g1 r1 q1 => ?_, l.er f⟩
    have f1 := f.ex x1 g1
    exact hg Z H1 u v d0 d _ _ (f.v.rp x1 ru) r1 q1 fun w z rz qz => l.nx _ _ H1 _ (f1.set (List.getElem?_eq_some_iff.mp e0).1 rz) qz
theorem vs_augAdd (hN : X.N.Nodup) (hi : X.N[i]? = some x) (hx : Loc X.env.scope x) (he : VE X b W e t) (hf : X.fn x = true ∨ X.env.scope.names.lookup x = some .local := by first | exact .inl rfl | exact .inr rfl | assumption) :
    VSt X b W (.AugAssign (.Name x pos') .Add e pos) (sAugA i gAugAdd t) :=
  vs_augG ip_addA (fun Z H u v d0 d Q Qd r1 r2 g k => by
    match d0, d, g, r1, r2 with
    | .py (.int i), .py (.int j), g, r1, r2 =>
      obtain rfl := Rb.int (b := b) (Z := Z) (H := H) (.inl r1)
      obtain rfl := Rb.int (b := b) (Z := Z) (H := H) (.inl r2)
      exact .inl ⟨i, j, rfl, rfl, k _ (.py (.int _)) (Rq.int _) g⟩
    | .py (.str i), .py (.str j), ⟨hl, g⟩, r1, r2 =>
      obtain rfl := Rb.str (b := b) (Z := Z) (H := H) (.inl r1)
      obtain rfl := Rb.str (b := b) (Z := Z) (H := H) (.inl r2)
      exact .inr ⟨i, j, rfl, rfl, by rw [sizeLine_eq]; exact hl, k _ (.py (.str _)) (Rq.str _) g⟩) hN hi hx he hf
/-- xs[i] = v, an owned list -/
def setAt (xs : List PyData) (k : Int) (p : PyData) : Option (List PyData) := (ixN xs.length k).map fun j => xs.set j p
@[simp] def sStoL (i : Nat) (ty tv : VT) : VS := fun ρ De => ∃ xs, ρ[i]? = some (.own (.py (.list xs))) ∧ tv ρ (fun v => ∃ p, v = .py p ∧ ty ρ (fun y => ∃ k, y = .py (.int k) ∧ ∃ ys, setAt xs k p = some ys ∧ De.nx (ρ.set i (.own (.py (.list ys))))) (De.ex ρ)) (De.ex ρ)
theorem vs_stoL {o ei : Expr} {ty tv : VT} (ho : PE X o (tVar i)) (hi : VE X b W ei ty) (hv : VE X b W e tv)
    (ha : ∀ v, assign (.Subscript o ei pos') X.env v = (do
      let ov ← holding [v] (eval o X.env)
      let iv ← holding [v, ov] (eval ei X.env)
      standAt pos'
      holding [v, ov, iv] (setItem ov iv v)
      release [v, ov, iv] []) := by intro _; rfl)
    (hs : swapsWithSole [.Subscript o ei pos'] e pos.line X.env = pure false := by rfl) (hw : swappedStores [.Subscript o ei pos'] e X.env = pure none := by rfl)
    (h1 : (assignEach [.Subscript o ei pos'] X.env).map (·.2) = [assign (.Subscript o ei pos') X.env] := by rfl) : VSt X b W (.Assign [.Subscript o ei pos'] e pos) (sStoL i ty tv) :=
  ps_mono (ps_asg hv (pg_sub ho hi set_list ha) hs hw h1) fun Dn σ H ⟨H0, M, Zo, Z, ρ, De, f, ⟨xs, e1, q⟩, l⟩ => by
    refine ⟨Zo, Z, ρ, _, _, f.v, q, fun v H1 dv x1 g1 r1 ⟨p, ep, q1⟩ => ?_, l.er f⟩
    subst ep
    have f1 := f.ex x1 g1
    obtain ⟨a, h1, h2, h3, h4⟩ := f1.v.own i _ e1
    refine ⟨.ref a, h1, Zo, Z, ρ, _, _, f1.v, q1, fun y H2 dy x2 g2 r2 ⟨k, ey, ys, es, q2⟩ => ?_, l.er f1⟩
    subst ey
    obtain rfl := Rb.int (b := b) (Z := Z) (H := H2) (.inl r2)
    have f2 := f1.ex x2 g2
    obtain ⟨a', h1', h2', h3', xs', h4', h5'⟩ := f2.v.own i _ e1
    rw [h1] at h1'; cases h1'
    unfold setAt at es
    cases ej : ixN xs.length k with
    | none => rw [ej] at es; cases es
    | some j =>
      rw [ej] at es; cases es
      refine ⟨a, xs', k, j, rfl, rfl, h4', by rw [h5'.length]; exact ej, l.nx _ _ _ _ (f2.mut (d' := .py (.list (xs.set j p))) e1 h1 ⟨_, upd_same, ?_⟩) q2⟩
      exact (h5'.set (f1.v.rq x2 r1) j).mono (fun c z => .inl z) fun c u e n => by
        rw [upd_ne (fun w => n (by rw [w]; exact h2))]
        exact e
end
end VL
set_option Elab.async false
set_option linter.all false
set_option maxRecDepth 100000
set_option maxHeartbeats 4000000
namespace VL
open PySem PySem.Spec PyProof.Rows L2 HT TL
theorem hu65 {A : Around} {k : Nat} (r : Room k A) : A.units + 65 < cLine := by have := r.un; omega
/-! ### texts as lists of signs -/
@[simp] theorem mkS_inj {a b : List Nat} : mkS a = mkS b ↔ a = b := ⟨fun e => by have := congrArg sl e; simpa using this, fun e => by rw [e]⟩
@[simp] theorem mkS_app (a b : List Nat) : mkS a ++ mkS b = mkS (a ++ b) := ext_tl (by rw [tl_append])
@[simp] theorem beq_mkS (a b : List Nat) : (mkS a == mkS b) = (a == b) := by
  by_cases h : a = b
  · subst h; simp
  · have h2 : mkS a ≠ mkS b := fun e => h (mkS_inj.mp e)
    rw [beq_eq_false_iff_ne.mpr h2, beq_eq_false_iff_ne.mpr h]
@[simp] theorem repS_mkS (l : List Nat) (k : Int) : repS (mkS l) k = mkS (List.replicate k.toNat l).flatten := rfl
@[simp] theorem cps_mkS (l : List Nat) : (mkS l).cps = l.toArray := rfl
def encC (c : Nat) : PyData := .str (mkS [c])
@[simp] theorem encC_eq (c : Nat) : encC c = .str (mkS [c]) := rfl
theorem signsD_mkS (l : List Nat) : signsD (mkS l) = l.map encC := rfl
@[simp] theorem str_ab (a b : Str) : (PyData.str a = PyData.str b) ↔ a = b := ⟨fun e => by injection e, fun e => by rw [e]⟩
open Builtin.Str in
theorem occ_step (z : Str) (c k lim : Nat) (st : Array Nat × Nat) (h1 : st.2 ≤ k) (h2 : st.1.size < lim) : StrLaws.occBody z ⟨#[c]⟩ z.length lim k st = if (sl z)[k]? = some c then pure (ForInStep.yield (st.1.push k, k + 1)) else pure (ForInStep.yield (st.1, st.2)) := by
  unfold StrLaws.occBody
  have e := StrLaws.subAt_one z c k
  by_cases h : (sl z)[k]? = some c
  · have h' := e.mpr h
    rw [if_pos ⟨⟨⟨h2, h1⟩, h'.1⟩, h'.2⟩, if_pos h]
    rfl
  · rw [if_neg (fun q => h (e.mp ⟨q.1.2, q.2⟩)), if_neg h]
theorem occ_sign (z : Str) (c : Nat) : ∀ (n k free : Nat) (acc : Array Nat), free ≤ k → acc.size ≤ k → k + n = z.length + 1 →
    (forIn (List.range' k n) (acc, free) (StrLaws.occBody z ⟨#[c]⟩ z.length (z.length + 1))).run.fst.toList.length = acc.size + ((sl z).drop k).count c
  | 0, k, free, acc, h1, h2, h3 => by
    have : (sl z).drop k = [] := List.drop_eq_nil_of_le (by rw [slen]; omega)
    rw [this]; simp
  | n + 1, k, free, acc, h1, h2, h3 => by
    rw [List.range'_succ, List.forIn_cons, occ_step z c k _ (acc, free) h1 (by show acc.size < _; omega)]
    by_cases hk : k < z.length
    · have hk' : k < (sl z).length := by rw [slen]; exact hk
      rw [List.drop_eq_getElem_cons hk', List.getElem?_eq_getElem hk']
      by_cases hc : (sl z)[k] = c
      · rw [if_pos (by rw [hc]), hc, List.count_cons_self]
        have := occ_sign z c n (k + 1) (k + 1) (acc.push k) (by omega) (by simp; omega) (by omega)
        rw [Array.size_push] at this
        simp only [pure_bind]
        omega
      · rw [if_neg (by simpa using hc), List.count_cons_of_ne (by simpa using hc)]
        exact occ_sign z c n (k + 1) free acc (by omega) (by omega) (by omega)
    · have e : (sl z).drop k = [] := List.drop_eq_nil_of_le (by rw [slen]; omega)
      rw [if_neg (by rw [List.getElem?_eq_none (by rw [slen]; omega)]; simp), e]
      have := occ_sign z c n (k + 1) free acc (by omega) (by omega) (by omega)
      have e2 : (sl z).drop (k + 1) = [] := List.drop_eq_nil_of_le (by rw [slen]; omega)
      rw [e2] at this
      exact this
theorem count_sign (z : Str) (c : Nat) : Txt.count z (mkS [c]) = ((sl z).count c : Nat) := by
  unfold Txt.count
  rw [StrLaws.occ_eq]
  have := occ_sign z c (z.length + 1 - 0) 0 0 #[] (by omega) (by simp) (by omega)
  simp at this ⊢
  exact_mod_cast this
@[simp] theorem count_mkS (l : List Nat) (c : Nat) : Txt.count (mkS l) (mkS [c]) = (l.count c : Nat) := by rw [count_sign, sl_mkS]
theorem join0 (ls : List (List Nat)) : Txt.join (mkS []) (ls.map mkS) = mkS ls.flatten := by
  rw [join_eq]
  refine ext_tl ?_
  rw [tl_join]
  have : (ls.map mkS).map tl = ls := by rw [List.map_map]; exact List.map_id ls
  rw [this]
  show joinL [] ls = ls.flatten
  have h : ∀ ls : List (List Nat), joinL [] ls = ls.flatten := by
    intro ls
    induction ls with
    | nil => rfl
    | cons p r ih =>
      cases r with
      | nil => simp [joinL]
      | cons q r => rw [joinL, ih]; simp
  exact h ls
@[simp] theorem atI_zero {α : Type} (x : α) (xs : List α) : atI (x :: xs) 0 = some x := by
  have e : ixN (x :: xs).length 0 = some 0 := by
    unfold ixN
    rw [if_pos (by omega), if_pos (by simp)]; rfl
  unfold atI
  rw [e]; rfl
theorem allS_mk (ls : List (List Nat)) : allS (ls.map fun l => PyData.str (mkS l)) = some (ls.map mkS) := by
  induction ls with
  | nil => rfl
  | cons l ls ih => simp [allS, ih]
theorem allI_mk (ls : List Int) : allI (ls.map PyData.int) = some ls := by
  induction ls with
  | nil => rfl
  | cons l ls ih => simp [allI, ih]
theorem allB_mk (ls : List Bool) : allB (ls.map PyData.bool) = some ls := by
  induction ls with
  | nil => rfl
  | cons l ls ih => simp [allB, ih]
theorem allI_pN (ls : List Nat) : allI (ls.map pN) = some (ls.map fun (n : Nat) => (n : Int)) := by
  have : ls.map pN = (ls.map fun (n : Nat) => (n : Int)).map PyData.int := by rw [List.map_map]; rfl
  rw [this, allI_mk]
section
variable {g : VTg} {tt : VB} {te : VT} {tb : VS} {De : VEnds} {ρ : VEnv} {Q : D → Prop} {α β : Type}
theorem lc_encF' (enc : α → PyData) (p : α → Bool) (e : α → PyData) {L : List α} (h : ∀ (i : Nat) (x : α), L[i]? = some x → ∀ k, (p x = true → k (some (e x))) → (p x = false → k none) → lcStep g tt te (.py (enc x)) ρ k)
    (hl : L.length < 16777216) (q : Q (.py (.list ((L.filter p).map e)))) : lcGo g tt te Q (L.map (D.py ∘ enc)) [] ρ := by
  rw [← List.map_map]; exact lc_encF enc p e h hl q
theorem lc_encM' (enc : α → PyData) (e : α → PyData) {L : List α} (h : ∀ (i : Nat) (x : α), L[i]? = some x → ∀ k, k (some (e x)) → lcStep g tt te (.py (enc x)) ρ k)
    (hl : L.length < 16777216) (q : Q (.py (.list (L.map e)))) : lcGo g tt te Q (L.map (D.py ∘ enc)) [] ρ := by
  rw [← List.map_map]; exact lc_encM enc e h hl q
theorem for_enc' (enc : α → PyData) (Iv : Nat → VEnv → Prop) {L : List α} (h0 : Iv 0 ρ) (h : ∀ i x ρ, L[i]? = some x → Iv i ρ → ∀ nx ct : VEnv → Prop, (∀ ρ', Iv (i + 1) ρ' → nx ρ' ∧ ct ρ') → g (.py (enc x)) ρ fun ρ1 => tb ρ1 ⟨nx, De.rt, De.nx, ct, De.ex⟩) (hd : ∀ ρ, Iv L.length ρ → De.nx ρ) :
    forGo g tb (L.map (D.py ∘ enc)) ρ De := by
  rw [← List.map_map]; exact for_enc enc Iv h0 h hd
end
end VL
set_option Elab.async false
set_option linter.all false
set_option maxRecDepth 100000
set_option maxHeartbeats 4000000
/-! ### isinstance of a caught error that has a dict -/
namespace PySem.W
open PySem PySem.Spec PySem.Calls PyProof.Rows
section
variable {prog : Program} {w : World} {A : Around} {E : Value → Shared → Prop} {s : Shared} {K : Frag} {x D : Addr} {ox : Obj} {od : Option Obj}
end
end PySem.W
namespace VL
open PySem PySem.Spec PyProof.Rows L2 HT
/-! ### own errors -/
/-- n is x, or x stands above all errors of the package -/
def errSub (n x : Str) : Bool := n == x || x == "LineError" || x == "ValueError"
/-- what the written part says of an error's class -/
structure ErrC (K : PySem.W.Frag) (C : Addr) : Prop where
  hg : PySem.W.findIn K (.ref C) "__getattribute__" = some (some (.builtin "BaseException.__getattribute__"))
  hk : PySem.W.findIn K (.ref C) "__getattr__" = some none
  hs : PySem.W.subIn K (.ref C) (.type "BaseException") = some true
  hd : PySem.W.hasDictIn K C = true
  ha : PySem.W.findIn K (.ref C) "__class__" = some (some (.builtin "object.__class__"))
  hn : PySem.W.specialIn K (.builtin "object.__class__") "__get__" = some (some (.builtin "getset_descriptor.__get__"))
  ht : PySem.W.takesIn K (.builtin "object.__class__") = some true
  hm : PySem.W.mroIn K C (.type "object") = some true
section
variable {b : Bg} {W : WX} {H0 : Hp} {M Zo Z : Addr → Prop} {σ : L2.St} {H H' : Hp} {ρ : VEnv} {De : VEnds} {Dn : Ends}
end
/-! ### try: .. except x as n: .. -/
/-- the ends of an except suite: the name is forgotten behind it -/
@[simp] def afterS (i : Nat) (De : VEnds) : VEnds := { nx := fun ρ2 => i < ρ2.length ∧ De.nx (ρ2.set i .un), rt := De.rt, bk := fun ρ2 => i < ρ2.length ∧ De.bk (ρ2.set i .un), ct := fun ρ2 => i < ρ2.length ∧ De.ct (ρ2.set i .un), ex := fun _ _ => False }
/-- i: the slot of n; names: the errors that may be met here -/
@[simp] def sTry (i : Nat) (names : List Str) (x : Str) (tb : VS) (ts : Addr → Option Addr → Er → VS) : VS := fun ρ De => i < ρ.length ∧
  tb ρ { De with ex := fun ρ' er => i < ρ'.length ∧ er.n ∈ names ∧ if errSub er.n x = true then ∀ a d, ts a d er (ρ'.set i (.shr (.err a d er.n er.fs))) (afterS i De) else De.ex ρ' er }
section
variable {X : Cx} {b : Bg} {Wout : WX} {names : List Str} {x n : Str} {i : Nat} {body suite : List Stmt} {b₀ : Stmt} {np pos pos' : Pos} {tb : VS} {ts : Addr → Option Addr → Er → VS}
end
end VL
set_option Elab.async false
set_option linter.all false
set_option maxRecDepth 100000
set_option maxHeartbeats 4000000
namespace VL
open PySem PySem.Spec PyProof.Rows L2 HT
abbrev veB : List Value := [.type "ValueError", .type "Exception", .type "BaseException", .type "object"]
/-! ### raise -/
/-- an error without fields can be made -/
structure Mk0 (K : PySem.W.Frag) (mg : Str → Option Value) (b : Bg) (n : Str) : Prop where
  g : mg n = some (.ref (b.cls n))
  q : PySem.W.excIn K (b.cls n) veB "ValueError.__new__" = true
  k : PySem.W.keepIn K (.ref (b.cls n)) = true
  s : PySem.W.subIn K (.ref (b.cls n)) (.type "BaseException") = some true
  t : PySem.W.typeIn K (.ref (b.cls n)) = some (.type "type")
theorem pmk_own0 {X : Cx} {C : Addr} {bmB : List Value} {B newId initId : String} {x : Str} {p pos : Pos} (F : ExcBaseFacts B newId initId bmB) (q : PySem.W.excIn X.K C bmB newId = true) (gC : X.mg x = some (.ref C))
    (kC : PySem.W.keepIn X.K (.ref C) = true) (r : Raises X (.ref C)) (hg : Gl X x) (hdb : (x == ("__debug__" : Str)) = false := by decide) :
    PMk X (.Call (.Name x p) [] [] pos) (fun _ H Q => Q (.ref C) none H) := by
  intro pins s σ H Q I h
  refine wpAny_Call_Name_kw (ld_glob I hg gC (PySem.W.callWith_K0 I.kIn kC ?_) hdb)
  show wpAny _ _ (call (.ref C) []) _ _ _
  obtain ⟨bm, N, nm, qn, bs, hdct, sn, sub, ab, col, dd, k0, k1, k2, k3, k5, mN, hC, hN, hni, T⟩ := exc_obj I.kIn q
  refine wpAny_call_exc_subT F T hC hN hni (fun h' e hm => ?_) (Nat.zero_le _)
  exact mk_of I hm r h (I.hok.gone hm.new)
@[simp] def sRaise0 (n : Str) : VS := fun ρ De => De.ex ρ ⟨n, []⟩
@[simp] def sRaise1 (n f : Str) (t : VT) : VS := fun ρ De => t ρ (fun d => ∃ p, d = .py p ∧ De.ex ρ ⟨n, [(f, p)]⟩) (De.ex ρ)
/-- what an error's own __init__ promises -/
def spInit (K : PySem.W.Frag) (f : Str) : Sp := fun vs H Q _ => ∃ (a C : Addr) (v : V), vs = [.ref a, v] ∧ OexC K C ∧ PySem.W.findIn K (.ref C) f = some none ∧ H a = some (exo a C none) ∧ ∀ dx, H dx = none → dx ≠ a → Q .non (upd (upd H dx (exd dx [(f, v)])) a (exo a C (some dx)))
theorem ok_init {P : Program} {w : World} {K : PySem.W.Frag} {mg : Str → Option Value} {base : Heap} {x qual f prm : Str} {st : Stmt} {fa : Addr} {fd : FuncData} {p1 p2 p3 p4 : Pos} (F : Fun K x qual st fa fd) (Sc : FnScope ["self", prm] ["self", prm] (defScope st))
    (hst : defBody st = [.Assign [.Attribute (.Name "self" p1) f p2] (.Name prm p3) p4]) (h0 : (defScope st).names.lookup ("self" : Str) = some .local) (h1 : (defScope st).names.lookup prm = some .local) (hd : (prm == ("__debug__" : Str)) = false) (hcd : (prm == ("__classdict__" : Str)) = false) :
    FnOk P w K mg base (L2.CX P w) 1 fa fd ["self", prm] (spInit K f) := by
  refine F.okX Sc (fun vs H Q E ⟨a, C, v, e, _⟩ => by rw [e]; rfl) fun cdv A outer s H vs Q E hr h => ?_
  rw [hst]
  refine ⟨_, pss_one (ps_ost (pe_var (i := 0) rfl (.inl h0)) (pe_var (i := 1) rfl (.inl h1) hd hcd)), ?_⟩
  obtain ⟨a, C, v, rfl, T, hno, e, q⟩ := h
  exact ⟨v, rfl, .ref a, rfl, a, C, rfl, T, hno, .inl ⟨e, fun dx hd hne => q dx hd hne⟩⟩
/-- an error with the field f can be made -/
structure Mk1 (P : Program) (w : World) (K : PySem.W.Frag) (mg : Str → Option Value) (base : Heap) (b : Bg) (n f : Str) where
  g : mg n = some (.ref (b.cls n))
  T : OexC K (b.cls n)
  hno : PySem.W.findIn K (.ref (b.cls n)) f = some none
  fI : Addr
  fd : FuncData
  prm : Str
  iC : PySem.W.findIn K (.ref (b.cls n)) "__init__" = some (some (.ref fI))
  tI : PySem.W.typeIn K (.ref fI) = some (.type "function")
  F : FnOk P w K mg base (L2.CX P w) 1 fI fd ["self", prm] (spInit K f)
  bd : Binds K fd ["self", prm] []
section
variable {X : Cx} {b : Bg} {W : WX} {n f : Str} {e : Expr} {t : VT} {p pos pos2 : Pos} {j : Nat}
theorem vs_raise0 (M : Mk0 X.K X.mg b n) (hc : X.calm = true) (tk : Takes X W) (hg : Gl X n) (hdb : (n == ("__debug__" : Str)) = false := by decide) : VSt X b W (.Raise (some (.Call (.Name n p) [] [] pos)) none pos2) (sRaise0 n) :=
  ps_mono (ps_raise hc tk (pmk_own0 PySem.F.excBase_ValueError M.q M.g M.k (raises_own M.s M.t) hg hdb)) fun D σ H ⟨H0, Mo, Zo, Z, ρ, De, fo, q, l⟩ => l.ex _ _ _ _ _ _ ⟨n, []⟩ fo ⟨rfl, .inl ⟨rfl, rfl⟩⟩ q
theorem vs_raise1 (M : Mk1 X.prog X.w X.K X.mg X.base b n f) (hr : Room j X.A) (hc : X.calm = true) (tk : Takes X W) (hg : Gl X n) (he : VE X b W e t) (hj : 2 ≤ j := by decide) (hdb : (n == ("__debug__" : Str)) = false := by decide)
    (hs : starEach [e] X.env = (false, eval e X.env) :: starEach [] X.env := by rfl) (hpl : (backTo pos (starEach [] X.env)).any (·.1) = false := by rfl) :
    VSt X b W (.Raise (some (.Call (.Name n p) [e] [] pos)) none pos2) (sRaise1 n f t) :=
  ps_mono (ps_raise hc tk (pmk_oex (k := 1) (ds := []) (dvs := []) M.T M.iC M.tI M.F (hr.mono hj) M.bd .nil passL hg M.g (va_cons he va_nil hs) hdb hs hpl)) fun D σ H ⟨H0, Mo, Zo, Z, ρ, De, fo, q, l⟩ => by
    refine ⟨Zo, Z, ρ, fun ds => match ds with | [d] => ∃ p, d = .py p ∧ De.ex ρ ⟨n, [(f, p)]⟩ | _ => False, De.ex ρ, fo.v, q, fun vs H1 ds x1 g1 r1 q1 => ?_, l.er fo⟩
    match ds, q1, r1 with
    | [_], ⟨p, rfl, q1⟩, .cons (v := v) rv .nil =>
      refine ⟨by show 1 ≤ 1000; omega, fun a ha => ⟨a, b.cls n, v, rfl, M.T, M.hno, upd_same, fun dx hd hne => ⟨rfl, dx, [(f, v)], upd_same, ?_, ?_, ?_⟩⟩⟩
      · rw [upd_ne hne]; exact upd_same
      · rw [upd_ne hne] at hd; exact hd
      · have hd1 : H1 dx = none := by rw [upd_ne hne] at hd; exact hd
        generalize hHf : upd (del (upd (upd (upd H1 a (exo a (b.cls n) none)) dx (exd dx [(f, v)])) a (exo a (b.cls n) (some dx))) a) dx (.xd [(f, v)]) = Hf
        have at_ : ∀ c, c ≠ a → c ≠ dx → Hf c = H1 c := fun c c1 c2 => by rw [← hHf, upd_ne c2, del_ne c1, upd_ne c1, upd_ne c2, upd_ne c1]
        have hfd : Hf dx = some (.xd [(f, v)]) := by rw [← hHf]; exact upd_same
        have x2 : Ex b H1 Hf := fun c o hc _ => by
          rw [at_ c (fun z => by rw [z, ha] at hc; cases hc) (fun z => by rw [z, hd1] at hc; cases hc)]
          exact hc
        have g2 : b.G Hf := b.loc H1 Hf (fun c hc => at_ c (fun z => b.dom H1 c g1 hc (by rw [z]; exact ha)) (fun z => b.dom H1 c g1 hc (by rw [z]; exact hd1))) (fun c o _ e => by rw [at_ c (fun z => by rw [z, ha] at e; cases e) (fun z => by rw [z, hd1] at e; cases e)]; exact e) g1
        have f1 := fo.ex x1 g1
        have f2 := f1.ex x2 g2
        refine l.ex _ _ _ _ _ _ ⟨n, [(f, _)]⟩ f2 ⟨rfl, .inr ⟨dx, _, rfl, hfd, f1.v.fresh hd1, .cons (f1.v.rq x2 rv) .nil⟩⟩ q1
end
end VL
set_option Elab.async false
set_option linter.all false
set_option maxRecDepth 100000
set_option maxHeartbeats 4000000
namespace VL
open PySem PySem.Spec PyProof.Rows L2 HT
/-! ### in an except suite: what is asked of the error -/
/-- the error's field f -/
@[simp] def vErrF (a : Addr) (d : Option Addr) (er : Er) (i : Nat) (nf : List Str) (f : Str) : VT := fun ρ Q _ => ρ[i]? = some (.shr (.err a d er.n er.fs)) ∧ er.n ∈ nf ∧ ∃ p, er.fs.lookup f = some p ∧ Q (.py p)
/-- isinstance(error, x) -/
@[simp] def vErrI (a : Addr) (d : Option Addr) (er : Er) (i : Nat) (names : List Str) (x : Str) : VT := fun ρ Q _ => ρ[i]? = some (.shr (.err a d er.n er.fs)) ∧ er.n ∈ names ∧ Q (.py (.bool (errSub er.n x)))
/-- isinstance(error, (x, ..)) -/
@[simp] def vErrIT (a : Addr) (d : Option Addr) (er : Er) (i : Nat) (names xs : List Str) : VT := fun ρ Q _ => ρ[i]? = some (.shr (.err a d er.n er.fs)) ∧ er.n ∈ names ∧ Q (.py (.bool (xs.any fun x => errSub er.n x)))
section
variable {X : Cx} {b : Bg} {W : WX} {a : Addr} {oe : Obj} {er : Er} {d : Option Addr} {pn : List (Addr × Obj)} {i : Nat} {names nf xs : List Str} {x f nm : Str} {pos p p1 p2 : Pos} {e e2 : Expr} {es : List Expr}
end
section
variable {X : Cx} {b : Bg} {W : WX} {a : Addr} {oe : Obj} {er : Er} {d : Option Addr} {pn : List (Addr × Obj)} {i : Nat} {names nf xs : List Str} {x f nm : Str} {pos p p1 p2 : Pos} {e e2 : Expr} {es : List Expr} {k1 : Nat}
end
end VL
set_option Elab.async false
set_option linter.all false
set_option maxRecDepth 100000
set_option maxHeartbeats 4000000
namespace VL
open PySem PySem.Spec PyProof.Rows L2 HT
/-! ### the facts of the errors' classes, for the join -/
/-- what every error's class that is raised must say -/
structure RaiB (K : PySem.W.Frag) (C : Addr) (n : Str) : Prop where
  ns : PySem.W.nsIn K mainGlobals n = some (some (.ref C))
  kC : PySem.W.keepIn K (.ref C) = true
  tyC : PySem.W.typeIn K (.ref C) = some (.type "type")
  sf : PySem.W.selfFirst K C = true
  ve : PySem.W.subIn K (.ref C) (.type "ValueError") = some true
  ec : ErrC K C
theorem raiB {K : PySem.W.Frag} {C : Addr} {n : Str} (a1 : PySem.W.nsIn K mainGlobals n = some (some (.ref C))) (a2 : PySem.W.keepIn K (.ref C) = true) (a3 : PySem.W.typeIn K (.ref C) = some (.type "type")) (a4 : PySem.W.selfFirst K C = true)
    (a5 : PySem.W.subIn K (.ref C) (.type "ValueError") = some true)
    (b1 : PySem.W.findIn K (.ref C) "__getattribute__" = some (some (.builtin "BaseException.__getattribute__"))) (b2 : PySem.W.findIn K (.ref C) "__getattr__" = some none) (b3 : PySem.W.subIn K (.ref C) (.type "BaseException") = some true) (b4 : PySem.W.hasDictIn K C = true)
    (b5 : PySem.W.findIn K (.ref C) "__class__" = some (some (.builtin "object.__class__"))) (b6 : PySem.W.specialIn K (.builtin "object.__class__") "__get__" = some (some (.builtin "getset_descriptor.__get__"))) (b7 : PySem.W.takesIn K (.builtin "object.__class__") = some true) (b8 : PySem.W.mroIn K C (.type "object") = some true) : RaiB K C n := ⟨a1, a2, a3, a4, a5, ⟨b1, b2, b3, b4, b5, b6, b7, b8⟩⟩
structure Rai0 (K : PySem.W.Frag) (n : Str) : Prop where
  ex : ∃ C : Addr, RaiB K C n ∧ PySem.W.excIn K C veB "ValueError.__new__" = true
theorem rai0 {K : PySem.W.Frag} {C : Addr} {n : Str} (r : RaiB K C n) (q : PySem.W.excIn K C veB "ValueError.__new__" = true) : Rai0 K n := ⟨C, r, q⟩
structure RaiI (K : PySem.W.Frag) (C : Addr) (n qual f : Str) (st : Stmt) : Prop where
  b : RaiB K C n
  T : OexC K C
  no : PySem.W.findIn K (.ref C) f = some none
  ini : ∃ (fI : Addr) (fd : FuncData), Fun K "__init__" qual st fI fd ∧ PySem.W.findIn K (.ref C) "__init__" = some (some (.ref fI)) ∧ PySem.W.typeIn K (.ref fI) = some (.type "function")
structure Rai1 (K : PySem.W.Frag) (n qual f : Str) (st : Stmt) : Prop where
  ex : ∃ C : Addr, RaiI K C n qual f st
theorem rai1 {K : PySem.W.Frag} {C fI : Addr} {n qual f : Str} {st : Stmt} {oc kV doc pm cdv ct : Value} {od an : Option Addr} {osl : Array (Option Value)} {nm q : Str} {N : Addr} {bs bm : List Value} {sn : List Str} {sub : List Value} {ab : Bool} {col : Option Bool} {dd : Option Addr} {k0 k1 k2 k3 k5 : Option Value} (r : RaiB K C n)
    (c1 : K.lookup C = some (excClassObj nm q C N bs bm true sn sub ab col dd k0 k1 k2 k3 k5 "ValueError.__new__")) (c2 : PySem.HandSPX.refsVE bm = true) (c3 : PySem.W.findIn K (.ref C) "__setattr__" = some (some (.builtin "object.__setattr__"))) (c4 : PySem.W.findIn K (.ref C) f = some none)
    (d1 : PySem.W.findIn K (.ref C) "__init__" = some (some (.ref fI))) (d2 : PySem.W.typeIn K (.ref fI) = some (.type "function")) (d3 : K.lookup fI = some ⟨oc, od, .func (PySem.W.fnOf "__init__" qual (defArgs st) (defBody st) (defScope st) .none kV doc pm an cdv ct), osl⟩) (d4 : PySem.W.codeIn K cdv qual = true) (d5 : PySem.W.keepIn K (.ref fI) = true) : Rai1 K n qual f st :=
  ⟨C, r, ⟨⟨nm, q, N, bs, bm, sn, sub, ab, col, dd, k0, k1, k2, k3, k5, c1, c2⟩, c3, r.ec.hs, r.tyC, r.kC⟩, c4, fI, _, fun_mk d3 d4 d5, d1, d2⟩
section
variable {K : PySem.W.Frag} {h : Heap} {mg : Str → Option Value} {b : Bg} {n x qual f prm : Str} {C : Addr} {st : Stmt} {names : List Str}
theorem RaiB.mk0 (r : RaiB K (b.cls n) n) (q : PySem.W.excIn K (b.cls n) veB "ValueError.__new__" = true) (X : K.In h) (G : h.Ns mainGlobals mg) : Mk0 K mg b n := ⟨PySem.W.mg_of X G r.ns, q, r.kC, r.ec.hs, r.tyC⟩
theorem RaiI.mk1 {P : Program} {w : World} {base : Heap} (r : RaiI K (b.cls n) n qual f st) (X : K.In h) (G : h.Ns mainGlobals mg) (wk : ∀ (fa : Addr) (fd : FuncData), Fun K "__init__" qual st fa fd → FnOk P w K mg base (L2.CX P w) 1 fa fd ["self", prm] (spInit K f))
    (bd : ∀ (kV doc pm : Value) (an : Option Addr) (cdv ct : Value) (us : List Value), us.length = (["self", prm] : List Str).length → bindArgs (PySem.W.fnOf "__init__" qual (defArgs st) (defBody st) (defScope st) .none kV doc pm an cdv ct) ⟨us, []⟩ = pure ((["self", prm] : List Str).zip us)) : Nonempty (Mk1 P w K mg base b n f) := by
  obtain ⟨fI, fd, F, iC, tI⟩ := r.ini
  exact ⟨⟨PySem.W.mg_of X G r.b.ns, r.T, r.no, fI, fd, prm, iC, tI, wk fI fd F, F.binds bd⟩⟩
end
/-- the classes' addresses by their names -/
def clsOf : List (Str × Addr) → Addr → Str → Addr
  | [], fa, _ => fa
  | (m, C) :: r, fa, n => if m = n then C else clsOf r fa n
theorem clsOf_hd {m : Str} {C fa : Addr} {r : List (Str × Addr)} : clsOf ((m, C) :: r) fa m = C := if_pos rfl
theorem clsOf_tl {m n : Str} {C fa : Addr} {r : List (Str × Addr)} (h : (m == n) = false) : clsOf ((m, C) :: r) fa n = clsOf r fa n := if_neg (by simpa using h)
/-- a def within a class -/
def clsDef (s : Stmt) (i : Nat) : Stmt := match s with
  | .ClassDef _ _ _ b _ _ _ _ _ _ _ => b.getD i (.Pass ⟨0, 0, 0, 0⟩)
  | s => s
end VL
set_option Elab.async false
set_option linter.all false
set_option maxRecDepth 100000
set_option maxHeartbeats 2000000
/-! VL38: defs with one star parameter, called plainly. -/
namespace VL
open PySem PySem.Spec PyProof.Rows L2
@[simp] def svStar (S : SV) : SV := fun ds Q E => ∃ ps, pys ds = some ps ∧ ps.length ≤ sizeLine ∧ S [.py (.tuple ps)] Q E
structure CalR (P : Program) (w : World) (K : PySem.W.Frag) (mg : Str → Option Value) (base : Heap) (b : Bg) (k : Nat) (x : Str) (S : SV) where
  f : Addr
  F : FnR P w K mg base (L2.CX P w) k f (spV b S)
  g : mg x = some (.ref f)
  kp : PySem.W.keepIn K (.ref f) = true
section
variable {CX : CXT} {P : Program} {w : World} {K : PySem.W.Frag} {mg : Str → Option Value} {base : Heap} {k : Nat} {f : Addr} {name qual : Str} {params : Arguments} {body : List Stmt} {scope : Scope} {dV kV doc pm cdv ct oc : Value} {an od : Option Addr}
  {osl : Array (Option Value)} {N ps : List Str} {sp : Sp}
end
section
variable {P : Program} {w : World} {K : PySem.W.Frag} {mg : Str → Option Value} {base : Heap} {b : Bg} {k : Nat} {x qual pv : Str} {st : Stmt} {f : Addr} {fd : FuncData} {N : List Str} {S : SV}
end
section
variable {X : Cx} {b : Bg} {W : WX} {k j : Nat} {x : Str} {S : SV} {e : Expr} {es : List Expr} {u : VA} {p pos : Pos}
theorem run_fnRS {k : Nat} {f : Addr} {sp : Sp} {E : L2.St → XK} {pins : List (Addr × Obj)} {σ : L2.St} {H : Hp} {s : Shared} {Q : VK} {us : List Value} {vs : List V} (F : FnR X.prog X.w X.K X.mg X.base (L2.CX X.prog X.w) k f sp) (hr : Room k X.A) (hx : PassesAt (L2.CX X.prog X.w) X σ (E σ)) (I : Inv X pins σ H s) (r : Vals vs us) (h : sp vs H Q (E σ)) :
    wpAny (model X.prog X.w) X.A (call (.ref f) us) (EP X pins σ Q) X.xe s := by
  refine wpAny_call (codeAny_mono (F X.A X.stack s H us vs Q (E σ) hr I.env0 r h) fun r s' hq => ?_)
  cases r with
  | error e => exact hx pins H s e s' I hq
  | ok fl =>
    cases fl with
    | ret u => exact I.after hq
    | next => exact False.elim hq
    | brk => exact False.elim hq
    | cont => exact False.elim hq
theorem ve_calR (c : CalR X.prog X.w X.K X.mg X.base b k x S) (hr : Room j X.A) (tk : Takes X W) (hg : Gl X x) (ha : VAs X b W (e :: es) u) (hk : k ≤ j := by decide) (hdb : (x == ("__debug__" : Str)) = false := by decide)
    (he : starEach (e :: es) X.env = (false, eval e X.env) :: starEach es X.env := by rfl) (hpl : (backTo pos (starEach es X.env)).any (·.1) = false := by rfl) : VE X b W (.Call (.Name x p) (e :: es) [] pos) (vCall S u) := by
  refine pe_mono (t := tCallS (spV b S) (WE W) (LA b W u)) ⟨fun pins s σ H Q I h => ?_⟩ (call_core rfl rfl)
  refine wpAny_Call_Name_kw (ld_glob I hg c.g ?_ hdb)
  refine PySem.W.callWith_K (h₀ := X.base) I.ok.mod.kin c.kp (thn (ha.run pos pins s σ H _ I h) fun us s1 ⟨vs, H1, I1, r, q⟩ => ⟨I1.kIn, ?_⟩) he hpl
  exact run_fnRS c.F (hr.mono hk) (passAt tk σ) I1 r q
end
end VL
set_option Elab.async false
set_option linter.all false
set_option maxRecDepth 100000
set_option maxHeartbeats 2000000
/-! VL39: list.count of bools -/
namespace VL
open PySem PySem.Spec PyProof.Rows L2
theorem bools_vals : ∀ {us : List Value} {ns : List Bool}, Vals (ns.map V.bl) us → us = ns.map Value.bool
  | [], [], .nil => rfl
  | _, n :: ns, .cons r t => by
    cases r
    rw [List.map_cons, bools_vals t]
@[simp] def isLi : D → Prop
  | .py (.list _) => True
  | _ => False
@[simp] def gCountB : D → List D → (D → Prop) → Prop
  | .py (.list xs), [.py (.bool k)], Q => ∃ ns, allB xs = some ns ∧ Q (.py (.int (ns.count k : Nat)))
  | _, _, _ => False
end VL
set_option Elab.async false
set_option linter.all false
set_option maxRecDepth 100000
set_option maxHeartbeats 4000000
/-! VL40: the law's head for any background; the gear: a list of three numbers that a def draws from -/
namespace VL
open PySem PySem.Spec PyProof.Rows L2
theorem law_restX {B : Bg} {r : Addr} {H : Hp} {N : List Str} {i : Nat} {a : Addr} {t : VS} {Q : VK} {E : XK} (hG : B.G H) (h0 : 0 < N.length) (hi : i < N.length)
    (law : t (envBag N.length i r) (fin isTrue' noE)) (q : ∀ H', Q (.bl true) H') : LS B (WF E) t { nx := fun _ H' => Q .non H', rt := Q } ((L2.start N [.ref a]).set i (some (.ref r))) H := by
  have hl : (L2.start N [V.ref a]).length = N.length := by
    unfold L2.start
    rw [List.length_append, List.length_map, List.length_replicate, List.length_singleton]
    omega
  refine ⟨H, fun _ => False, B.B, B.B, _, _, ⟨⟨hG, fun _ z => z, fun _ z => z, fun a z => B.dom H a hG z, fun _ z => .inl z, fun j d e => ?_, fun j k d e c h1 _ _ _ => ?_, fun j d e => ?_, ?_⟩, fun _ _ e _ _ => e, fun j d c h1 _ => ?_⟩, law, ⟨fun _ _ _ _ _ h => (by cases h), fun v H' d _ _ rp h => ?_, fun _ _ _ _ _ h => h.elim, fun _ _ _ _ _ h => h.elim, fun _ _ _ _ _ _ _ _ _ h => h.elim⟩⟩
  · rcases envBag_at e with h | ⟨_, h⟩ <;> cases h
  · rcases envBag_at h1 with h | ⟨_, h⟩ <;> cases h
  · rcases envBag_at e with h | ⟨ej, h⟩
    · cases h
    · cases h
      subst ej
      exact ⟨.ref r, List.getElem?_set_self (by rw [hl]; exact hi), rfl⟩
  · unfold envBag
    rw [List.length_set, List.length_replicate, List.length_set, hl]
  · rcases envBag_at h1 with h | ⟨_, h⟩ <;> cases h
  · have h' : d = .py (.bool true) := h
    subst h'
    have rp' : Rq B.B H' v (.bool true) := rp
    cases rp'
    exact q H'
section
variable {P : Program} {w : World} {K : PySem.W.Frag} {mg : Str → Option Value} {base : Heap} {k k0 : Nat} {st : Stmt} {f fo : Addr} {fd fdo : FuncData} {N : List Str}
theorem lawX {ι : Type} (Bf : ι → Bg) (rf : ι → Addr) {spO : Sp} {bn on : Str} (hO : ∀ (a : Addr) (ns : List Int) (H : Hp) (Q : VK) (E : XK), SqL K H a (ns.map V.int) → ns.length ≤ 63 → (∀ x H', (Bf x).G H' → Q (.ref (rf x)) H') → spO [.ref a] H Q E) {i : Nat} {t : ι → VS} {p1 p2 p3 p4 p5 : Pos} {rest : List Stmt} {nm : Str} (F : Fun K nm nm st f fd) (Sc : FnScope N ["_law_script"] (defScope st))
    (hst : defBody st = .Assign [.Name bn p1] (.Call (.Name on p2) [.Name "_law_script" p3] [] p4) p5 :: rest)
    (FO : FnOk P w K mg base (L2.CX P w) k0 fo fdo ["_law_script"] spO) (gO : mg on = some (.ref fo)) (kO : PySem.W.keepIn K (.ref fo) = true) (bO : Binds K fdo ["_law_script"] []) (hk : k0 ≤ k) (hdb : (on == ("__debug__" : Str)) = false := by decide)
    (hi : N[i]? = some bn) (h0 : N[0]? = some ("_law_script" : Str)) (hloc : Loc (defScope st) bn) (hloc0 : (defScope st).names.lookup ("_law_script" : Str) = some .local) (hgl : (defScope st).names.lookup on = some .globalImplicit)
    (hbody : ∀ (x : ι) (cdv : Value) (A : Around) (outer : List Env) (s : Shared) (H : Hp) (E : XK), Room k (A.deeper (envOfC nm (defScope st) s.heap.objs.size f cdv)) → (A.deeper (envOfC nm (defScope st) s.heap.objs.size f cdv)).guards = some [] →
      Takes (cxOf (L2.CX P w) P w K mg base N nm (defScope st) f cdv A outer s H E) (WF E) → VSs (cxOf (L2.CX P w) P w K mg base N nm (defScope st) f cdv A outer s H E) (Bf x) (WF E) rest (t x))
    (law : ∀ x, t x (envBag N.length i (rf x)) (fin isTrue' noE)) : FnG P w K mg base (k + 1) f fd ["_law_script"] (spLaw K) := by
  refine fnG F Sc (fun vs H Q E ⟨a, ns, e, _⟩ => by rw [e]; rfl) fun cdv A outer s H vs Q E hr hg ⟨a, ns, ev, hS, hl, q⟩ => ?_
  subst ev
  rw [hst]
  have tk : Takes (cxOf (L2.CX P w) P w K mg base N nm (defScope st) f cdv A outer s H E) (WF E) := takes_of rfl rfl rfl rfl
  have hN0 : 0 < N.length := (List.getElem?_eq_some_iff.mp h0).1
  have hNi : i < N.length := (List.getElem?_eq_some_iff.mp hi).1
  refine ⟨_, pss_cons (ps_set (X := cxOf (L2.CX P w) P w K mg base N nm (defScope st) f cdv A outer s H E) (i := i) Sc.nd hi hloc (pe_callS FO (hr.mono hk) ?_ gO kO bO (fun σ => passAt tk σ) (pa_cons (pe_var h0 (.inl hloc0)) pa_nil) hdb) (by rfl) (.inl rfl))
    (pss_ex fun x => hbody x cdv A outer s H E hr hg tk), ?_⟩
  · exact hgl
  · refine ⟨.ref a, ?_, hO a ns _ _ _ hS hl fun x H' hG => ⟨x, law_restX hG hN0 hNi (law x) q⟩⟩
    unfold L2.start
    rfl
end
/-! ### the gear -/
end VL
set_option Elab.async false
set_option linter.all false
set_option maxRecDepth 100000
set_option maxHeartbeats 2000000
/-! VL41: isinstance with a pair of classes; a promise that nothing may ask -/
namespace VL
open PySem PySem.Spec PyProof.Rows L2
@[simp] def vIsi2 (T1 T2 : String) (t : VT) : VT := fun ρ Q E => t ρ (fun d => ∃ p, d = .py p ∧ ∃ k1 k2, isK T1 p = some k1 ∧ isK T2 p = some k2 ∧ Q (.py (.bool (k1 || k2)))) E
section
variable {X : Cx} {b : Bg} {W : WX} {T1 T2 : String} {x1 x2 : Str} {e : Expr} {t : VT} {p p1 p2 p3 pos : Pos} {kk : Nat}
end
end VL
set_option Elab.async false
set_option linter.all false
set_option maxRecDepth 100000
set_option maxHeartbeats 4000000
/-! VL42: sorted of lists and tuples of ints -/
namespace VL
open PySem PySem.Spec PyProof.Rows L2
/-- sorted(t), a tuple of ints -/
def rSortedTup (K : PySem.W.Frag) : List V → Hp → VK → Prop := fun vs H Q => ∃ (a : Addr) (ns : List Int), vs = [V.ref a] ∧ SqT K H a (ns.map V.int) ∧
  ∀ (ns' : List Int) (p : Addr), ns'.Perm ns → ns'.Pairwise (· ≤ ·) → H p = none → Q (.ref p) (upd H p (.lst (ns'.map V.int)))
section
variable {X : Cx}
theorem cr_sortedTup : CallR X (.builtin "sorted") (rSortedTup X.K) := by
  intro pins s σ H vs us Q I r h
  obtain ⟨a, ns, rfl, hs, q⟩ := h
  obtain ⟨its, rv, ⟨o, ho, hc, n, hd⟩, hz⟩ := I.tuple hs
  rw [Vals.ref1 r]
  have hi := rv.ints
  have hzi : its.length ≤ sizeLine := by rw [← rv.length]; exact hz
  refine Calls.call_function_entry kind_sorted plain_sorted entry_sorted (args_sorted1 _) ?_
  unfold Builtin.«sorted»
  refine wpAny_bind (m := checkCount "sorted" 1 1 _) (wpAny_pure ?_)
  refine wpAny_bind (wpAny_collect_seq a (.inr rfl) ho hc hd (fun h' hk => ?_) (by rw [List.size_toArray]; exact hzi))
  have ei : its.toArray.toList = its := by simp
  rw [ei]
  have I2 : Inv X pins σ H { s with heap := h' } := I.kept (t' := s.toks) hk
  refine wpAny_bind (wpAny_newList ?_ hzi)
  have hoL : (h'.push (seqObj "list" its.toArray 0)).get? h'.objs.size = some (seqObj "list" its.toArray 0) := Heap.get?_push_size _ rfl
  refine wpAny_bind (wpAny_holding (wpAny_call_entry slot_list_sort ⟨_, hoL, rfl⟩ entry_list_sort (SrtO.list_sort_ord SrtO.swo_int hoL hzi (fun h2 => SrtO.ints_sortable hi h2) fun out hs hb => ⟨_, rfl, ?_⟩) (args_list_sort _)))
  obtain ⟨k1, k2, k3⟩ := SrtO.ints_out hi hs hb
  obtain ⟨ep, he'⟩ := PyProof.Rows.sortedHeap_at (vs := its) (out := out.toArray) hoL
  have hlen : ((out.map SrtO.iv).map V.int).length ≤ sizeLine := by
    rw [List.length_map, k2.length_eq]
    rw [List.length_map] at hz
    exact hz
  refine wpAny_pure ⟨_, rfl, ?_⟩
  exact ⟨.ref _, upd H h'.objs.size (.lst ((out.map SrtO.iv).map V.int)), I2.laid (t' := s.toks) (fun b u hu => by
    have hne : b ≠ h'.objs.size := Nat.ne_of_lt (Heap.lt_size hu)
    rw [PyProof.Rows.sortedHeap_old hne (Heap.lt_size (Heap.get?_push_of_some _ hu))]
    exact Heap.get?_push_of_some _ hu) (Nat.le_refl _) ⟨hlen, out, ep, vals_of_ints k1, he'⟩, rfl, q _ _ k2 k3 (I2.hok.fresh (Nat.le_refl _))⟩
end
/-! ### over values -/
theorem perm_sorted_eq : ∀ {xs ys : List Int}, xs.Perm ys → xs.Pairwise (· ≤ ·) → ys.Pairwise (· ≤ ·) → xs = ys
  | [], ys, h, _, _ => h.nil_eq
  | x :: xs, [], h, _, _ => (List.Perm.nil_eq h.symm).symm
  | x :: xs, y :: ys, h, h1, h2 => by
    rw [List.pairwise_cons] at h1 h2
    have e : x = y := by
      have m1 : x ∈ y :: ys := h.mem_iff.mp List.mem_cons_self
      have m2 : y ∈ x :: xs := h.mem_iff.mpr List.mem_cons_self
      rcases List.mem_cons.mp m1 with e | e
      · exact e
      · rcases List.mem_cons.mp m2 with e' | e'
        · exact e'.symm
        · have := h1.1 y e'
          have := h2.1 x e
          omega
    subst e
    rw [perm_sorted_eq (List.perm_cons _ |>.mp h) h1.2 h2.2]
def sortI (ns : List Int) : List Int := ns.mergeSort (fun a b => decide (a ≤ b))
theorem sortI_perm (ns : List Int) : (sortI ns).Perm ns := List.mergeSort_perm _ _
theorem sortI_sorted (ns : List Int) : (sortI ns).Pairwise (· ≤ ·) := by
  have := List.pairwise_mergeSort (le := fun a b : Int => decide (a ≤ b)) (fun a b c h1 h2 => by simp at *; omega) (fun a b => by simp; omega) ns
  exact this.imp fun h => by simpa using h
theorem sortI_eq {ns ms : List Int} (h : ms.Perm ns) (h1 : ms.Pairwise (· ≤ ·)) : ms = sortI ns := perm_sorted_eq (h.trans (sortI_perm ns).symm) h1 (sortI_sorted ns)
@[simp] def gSorted : List D → (D → Prop) → Prop
  | [.py (.list xs)], Q => ∃ ns, allI xs = some ns ∧ Q (.py (.list ((sortI ns).map PyData.int)))
  | [.py (.tuple xs)], Q => ∃ ns, allI xs = some ns ∧ Q (.py (.list ((sortI ns).map PyData.int)))
  | _, _ => False
theorem rd_sorted {K : PySem.W.Frag} {b : Bg} : CalD b (RN b) (fun xs H Q => rSortedI K xs H Q ∨ rSortedTup K xs H Q) gSorted := by
  intro Z H vs ds Q Qd gd rx h k
  match ds, h, rx with
  | [.py (.list xs)], ⟨ns, e, h⟩, rx =>
    obtain ⟨x, rfl, r⟩ := rx.one
    obtain ⟨a, us, rfl, ha, qa⟩ := r.list
    rw [allI_of e] at qa
    have eu := qa.ints
    subst eu
    refine .inl ⟨a, ns, rfl, SqL.of ha, fun ns' p hp hs hn => ?_⟩
    have es := sortI_eq hp hs
    subst es
    exact k _ _ (.py (.list _)) (Ex.new hn) (gd.new hn) ⟨p, rfl, hn, _, upd_same, .of_ints _⟩ h
  | [.py (.tuple xs)], ⟨ns, e, h⟩, rx =>
    obtain ⟨x, rfl, r⟩ := rx.one
    obtain ⟨a, oa, us, rfl, ha, da, na, qa⟩ := r.tuple
    rw [allI_of e] at qa
    have eu := qa.ints
    subst eu
    refine .inr ⟨a, ns, rfl, SqT.th ha, fun ns' p hp hs hn => ?_⟩
    have es := sortI_eq hp hs
    subst es
    exact k _ _ (.py (.list _)) (Ex.new hn) (gd.new hn) ⟨p, rfl, hn, _, upd_same, .of_ints _⟩ h
theorem bb_sorted : bootBuiltins "sorted" = some (.builtin "sorted") := by decide +kernel
section
variable {X : Cx} {b : Bg} {W : WX} {e : Expr} {es : List Expr} {u : VA} {p pos : Pos}
theorem vn_sortedC (hg : Gl X "sorted") (hm : X.mg "sorted" = none) (ha : VXs X b W (e :: es) u) (he : starEach (e :: es) X.env = (false, eval e X.env) :: starEach es X.env := by rfl) (hpl : (backTo pos (starEach es X.env)).any (·.1) = false := by rfl) :
    VN X b W (.Call (.Name "sorted" p) (e :: es) [] pos) (vCal gSorted u) := vn_callB (CallR.or cr_sortedI cr_sortedTup) rd_sorted hg hm bb_sorted ha (by decide) (by decide) he hpl
end
end VL
set_option Elab.async false
set_option linter.all false
set_option maxRecDepth 100000
set_option maxHeartbeats 4000000
/-! VL43: len(set(t)), t a tuple of ints -/
namespace VL
open PySem PySem.Spec PyProof.Rows L2
section
variable {X : Cx}
def tLenSetT (K : PySem.W.Frag) (ta : TE) : TE := fun σ H Q => ta σ H fun x H1 => ∃ (l : Addr) (ns : List Int), x = V.ref l ∧ SqT K H1 l (ns.map V.int) ∧ ns.length < 1000 ∧ ∀ ks : List Int, ks.Nodup → (∀ j, j ∈ ks ↔ j ∈ ns) → Q (.int (ks.length : Nat)) H1
theorem pe_lenSetT {a : Expr} {ta : TE} {p p2 q pos : Pos} (hc : X.calm = true) (hg : Gl X "len") (hm : X.mg "len" = none) (hg2 : Gl X "set") (hm2 : X.mg "set" = none) (ha : PE X a ta)
    (na : starEach [a] X.env = (false, eval a X.env) :: starEach [] X.env := by rfl) : PE X (.Call (.Name "len" p) [.Call (.Name "set" p2) [a] [] q] [] pos) (tLenSetT X.K ta) := by
  refine ⟨fun pins s σ H Q I h => ?_⟩
  refine Call_ (ld_blt I hg hm PySem.boot_len ?_)
  refine PyProof.Rows.callWith_builtin1 (PyProof.Rows.args_cons ?_ rfl) rfl rfl
  refine Call_ (ld_blt I hg2 hm2 PyProof.Rows.boot_set ?_)
  refine PyProof.Rows.callWith_type1 (PyProof.Rows.args_cons (thn (ha.run pins s σ H _ I h) fun v s1 ⟨x, H1, I1, r1, q1⟩ => PyProof.Rows.args_nil ?_) na) na rfl
  obtain ⟨l, ns, rfl, hq, h1, q1⟩ := q1
  cases r1
  obtain ⟨its, r, pl, hz⟩ := I1.tuple hq
  refine call_set_tupI (P := X.prog) ns (I1.ok.hd hc) pl (by simpa using r.ints) (by unfold scanBound; omega) fun h' tk c hS hcn hk => ?_
  refine PyProof.Rows.args_nil ?_
  obtain ⟨o, es, ep, t, ho, hex, hd, _, hnd, hmem, _, hf, hn, _, _⟩ := hS
  have I2 : Inv X pins σ H1 { s1 with heap := h', toks := tk } := I1.kept hk
  have hes : es.size ≤ ns.length := by omega
  refine call_len_set ho hex hd hf (by omega) ⟨.int (es.size : Nat), H1, I2.tok _, ⟨_, rfl⟩, ?_⟩
  have := q1 (es.toList.map L2.keyOf) hnd (fun j => by rw [← hmem j]; simp)
  rw [List.length_map, Array.length_toList] at this
  exact this
end
@[simp] def vLenSet (t : VT) : VT := fun ρ Q E => t ρ (fun d => ∃ xs ns, d = .py (.tuple xs) ∧ allI xs = some ns ∧ ns.length < 1000 ∧ ∀ ks : List Int, ks.Nodup → (∀ j, j ∈ ks ↔ j ∈ ns) → Q (.py (.int (ks.length : Nat)))) E
theorem ve_lenSet {X : Cx} {b : Bg} {W : WX} {a : Expr} {t : VT} {p p2 q pos : Pos} (hc : X.calm = true) (hg : Gl X "len") (hm : X.mg "len" = none) (hg2 : Gl X "set") (hm2 : X.mg "set" = none) (ha : VX X b W a t)
    (na : starEach [a] X.env = (false, eval a X.env) :: starEach [] X.env := by rfl) : VE X b W (.Call (.Name "len" p) [.Call (.Name "set" p2) [a] [] q] [] pos) (vLenSet t) :=
  pe_mono (pe_lenSetT hc hg hm hg2 hm2 ha na) fun σ H Q ⟨Zo, Z, ρ, Qd, Ed, v, q, l, m⟩ => ⟨Zo, Z, ρ, _, Ed, v, q, fun x H1 d x1 g1 r1 ⟨xs, ns, ed, e, hl, q1⟩ => by
    subst ed
    obtain ⟨a, oa, us, rfl, ha, da, na, qa⟩ := r1.tuple
    rw [allI_of e] at qa
    have eu := qa.ints
    subst eu
    exact ⟨a, ns, rfl, SqT.th ha, hl, fun ks h1 h2 => l _ _ (.py (.int _)) x1 g1 (Rq.int _) (q1 ks h1 h2)⟩, m⟩
end VL
set_option Elab.async false
set_option linter.all false
set_option maxRecDepth 100000
set_option maxHeartbeats 4000000
/-! VL44: the jug: a list of a list and two numbers -/
namespace VL
open PySem PySem.Spec PyProof.Rows L2
def KeepJ (r l : Addr) (H H' : Hp) : Prop := ∀ a o, H a = some o → a ≠ r → a ≠ l → H' a = some o
theorem KeepJ.refl {r l : Addr} {H : Hp} : KeepJ r l H H := fun _ _ e _ _ => e
theorem KeepJ.upd {r l p : Addr} {H H1 : Hp} {o : HO} (h : KeepJ r l H H1) (hp : p = r ∨ p = l ∨ H1 p = none) : KeepJ r l H (upd H1 p o) := fun a u e n1 n2 => by
  have e1 := h a u e n1 n2
  rw [upd_ne (fun q => by
    subst q
    rcases hp with q | q | q
    · exact n1 q
    · exact n2 q
    · rw [q] at e1; cases e1)]
  exact e1
end VL
set_option Elab.async false
set_option linter.all false
set_option maxRecDepth 100000
set_option maxHeartbeats 4000000
/-! VL45: found.append(left.pop(k)), both lists owned -/
namespace VL
open PySem PySem.Spec PyProof.Rows L2
@[simp] def sPopApp (i j : Nat) (te : VT) : VS := fun ρ De => ∃ xs ys, ρ[i]? = some (.own (.py (.list xs))) ∧ ρ[j]? = some (.own (.py (.list ys))) ∧ i ≠ j ∧ xs.length < sizeLine ∧ ys.length ≤ sizeLine ∧
  te ρ (fun d => ∃ k : Nat, d = .py (.int (k : Nat)) ∧ ∃ p, ys[k]? = some p ∧ De.nx ((ρ.set j (.own (.py (.list (ys.eraseIdx k))))).set i (.own (.py (.list (xs ++ [p])))))) (De.ex ρ)
section
variable {X : Cx} {b : Bg} {W : WX} {o o2 e : Expr} {i j : Nat} {te : VT} {apos cpos pos apos2 cpos2 : Pos}
end
end VL
set_option Elab.async false
set_option linter.all false
set_option maxRecDepth 100000
set_option maxHeartbeats 4000000
/-! VL46: list(range(n)), tuple(range(n)) -/
namespace VL
open PySem PySem.Spec PyProof.Rows L2
section
variable {X : Cx} {a e : Expr} {ta : TE} {te : L2.St → Hp → (Int → Int → Hp → Prop) → Prop}
end
theorem rgV_ints (n : Int) : rgV 0 n = ((List.range n.toNat).map fun i : Nat => (0 + (i : Int))).map V.int := by unfold rgV; rw [List.map_map, Int.sub_zero]; rfl
theorem rangeP_ints (n : Nat) : rangeP 0 n = ((List.range n).map fun i : Nat => (0 + (i : Int))).map PyData.int := by rw [rangeP_eq, List.map_map]; rfl
@[simp] def vLstRg (t : VT) : VT := fun ρ Q E => t ρ (fun d => ∃ n : Int, d = .py (.int n) ∧ 0 ≤ n ∧ n ≤ 1000000 ∧ Q (.py (.list (rangeP 0 n.toNat)))) E
@[simp] def vTupRg (t : VT) : VT := fun ρ Q E => t ρ (fun d => ∃ n : Int, d = .py (.int n) ∧ 0 ≤ n ∧ n ≤ 1000000 ∧ Q (.py (.tuple (rangeP 0 n.toNat)))) E
section
variable {X : Cx} {b : Bg} {W : WX} {a : Expr} {t : VT} {p p2 q pos : Pos}
theorem vn_listRg (hc : X.calm = true) (hg : Gl X "list") (hm : X.mg "list" = none) (hg2 : Gl X "range") (hm2 : X.mg "range" = none) (ha : VX X b W a t) (na : starEach [a] X.env = (false, eval a X.env) :: starEach [] X.env := by rfl)
    (nb : starEach [.Call (.Name "range" p2) [a] [] q] X.env = (false, eval (.Call (.Name "range" p2) [a] [] q) X.env) :: starEach [] X.env := by rfl) : VN X b W (.Call (.Name "list" p) [.Call (.Name "range" p2) [a] [] q] [] pos) (vLstRg t) :=
  pe_mono (pe_listRg hc hg hm (prg_1 hg2 hm2 ha na) nb) fun σ H Q ⟨Zo, Z, ρ, Qd, Ed, v, qq, l, m⟩ => ⟨Zo, Z, ρ, _, Ed, v, qq, fun x H1 d x1 g1 r1 ⟨n, ed, n0, n1, q1⟩ => by
    subst ed
    obtain rfl := Rb.int (b := b) (Z := Z) (H := H1) r1
    refine ⟨n, rfl, RgOk.of_le (by omega) (by omega) (by omega) (by omega), fun c hc => ?_⟩
    rw [rgV_ints]
    rw [rangeP_ints] at q1
    exact l _ _ (.py (.list _)) (x1.trans (Ex.new hc)) (Bg.new g1 hc) ⟨c, rfl, ((by
      cases e : H c with
      | none => rfl
      | some o =>
        by_cases hb : b.B c
        · exact absurd hc (b.dom _ _ g1 hb)
        · rw [x1 c o e hb] at hc; cases hc) : H c = none), _, upd_same, .of_ints _⟩ q1, m⟩
end
end VL
set_option Elab.async false
set_option linter.all false
set_option maxRecDepth 100000
set_option maxHeartbeats 4000000
/-! VL47: x = left.pop(k), left owned -/
namespace VL
open PySem PySem.Spec PyProof.Rows L2
@[simp] def sPopSet (i j : Nat) (te : VT) : VS := fun ρ De => ∃ ys, ρ[j]? = some (.own (.py (.list ys))) ∧ i ≠ j ∧ i < ρ.length ∧ ys.length ≤ sizeLine ∧
  te ρ (fun d => ∃ k : Nat, d = .py (.int (k : Nat)) ∧ ∃ p, ys[k]? = some p ∧ De.nx ((ρ.set j (.own (.py (.list (ys.eraseIdx k))))).set i (.shr (.py p)))) (De.ex ρ)
section
variable {X : Cx} {b : Bg} {W : WX} {o2 e : Expr} {i j : Nat} {x : Str} {te : VT} {pos pos' apos2 cpos2 : Pos}
end
end VL
set_option Elab.async false
set_option linter.all false
set_option maxRecDepth 100000
set_option maxHeartbeats 4000000
/-! VL48: xs.insert(i, x), xs owned, i not below 0 -/
namespace VL
open PySem PySem.Spec PyProof.Rows L2
@[simp] def gIns : List PyData → List D → (D → List PyData → Prop) → Prop
  | p, [.py (.int i), .py x], Q => p.length < sizeLine ∧ 0 ≤ i ∧ i < 1000000000 ∧ Q (.py .none) (p.take i.toNat ++ [x] ++ p.drop i.toNat)
  | _, _, _ => False
section
variable {X : Cx} {b : Bg} {W : WX} {o e e2 : Expr} {ta : VA} {i : Nat} {apos cpos pos : Pos}
end
end VL
set_option Elab.async false
set_option linter.all false
set_option maxRecDepth 100000
set_option maxHeartbeats 4000000
/-! VL49: xs.extend(ys), xs owned, ys a list -/
namespace VL
open PySem PySem.Spec PyProof.Rows L2
@[simp] def gExt : List PyData → List D → (D → List PyData → Prop) → Prop
  | p, [.py (.list z)], Q => p.length + z.length ≤ sizeLine ∧ Q (.py .none) (p ++ z)
  | _, _, _ => False
theorem rd_ext {b : Bg} : MutD b rExtend gExt := by
  intro Z H a xs vs p ds Q Qd h rx rv g k
  match ds, g, rv with
  | [.py (.list z)], ⟨hl, q⟩, .cons (v := u) ru .nil =>
    have ru' : Rq Z H u (.list z) := ru
    cases ru' with
    | lst hb nz rs => exact ⟨a, _, xs, _, rfl, rfl, h, hb, by rw [rx.length, rs.length]; exact hl, k _ _ _ (.py .none) (rx.append rs) (Rq.non : Rq Z H .non .none) q⟩
section
variable {X : Cx} {b : Bg} {W : WX} {o e : Expr} {ta : VA} {i : Nat} {apos cpos pos : Pos}
theorem vs_ext (ho : PE X o (tVar i)) (ha : VAs X b W [e] ta) (hbase : attributeBase o "extend" X.env (eval o X.env) = eval o X.env := by rfl)
    (hfew : ((backTo cpos (starEach [e] X.env)).all (fun x => !x.1) && (backToKw cpos (keywordEach [] X.env)).all (fun x => x.1.isSome)
      && decide ([e].length + ([] : List Keyword).length + (if ([] : List Keyword).isEmpty then 0 else 1) < 30)) = true := by rfl)
    (hline : (apos.endLine == cpos.line) = true := by rfl) (hs : starEach [e] X.env = (false, eval e X.env) :: starEach [] X.env := by rfl) (hplain : (backTo cpos (starEach [] X.env)).any (·.1) = false := by rfl)
    (hsw : swapsWith (.Call (.Attribute o "extend" apos) [e] [] cpos) none pos.line X.env = pure false := by rfl) :
    VSt X b W (.Expr (.Call (.Attribute o "extend" apos) [e] [] cpos) pos) (sMut i gExt ta) :=
  vs_mut PySem.F.slot_list_extend PySem.F.type_list_extend mt_extend rd_ext ho ha hbase hfew hline hs hplain hsw
end
end VL
set_option Elab.async false
set_option linter.all false
set_option maxRecDepth 100000
set_option maxHeartbeats 4000000
/-! VL50: *e among the items of a display or the arguments of a call -/
namespace VL
open PySem PySem.Spec PyProof.Rows L2 StX
@[simp] def vStar (t : VT) (u : VA) : VA := fun ρ Q E => t ρ (fun d => ∃ xs, (d = .py (.tuple xs) ∨ d = .py (.list xs)) ∧ u ρ (fun ds => Q (xs.map D.py ++ ds)) E) E
theorem Rps.app {b : Bg} {Z : Addr → Prop} {H : Hp} : ∀ {u : List V} {d : List D} {v : List V} {e : List D}, Rps b Z H u d → Rps b Z H v e → Rps b Z H (u ++ v) (d ++ e)
  | _, _, _, _, .nil, k => k
  | _, _, _, _, .cons r s, k => .cons r (s.app k)
section
variable {X : Cx} {b : Bg} {W : WX} {e : Expr} {es : List Expr} {t : VT} {u : VA} {p : Pos}
theorem va_star (h : VE X b W e t) (k : VAs X b W es u) (hs : starEach (.Starred e p :: es) X.env = (true, eval e X.env) :: starEach es X.env := by rfl) : VAs X b W (.Starred e p :: es) (vStar t u) :=
  pa_mono (pa_star h k hs) fun σ H Q ⟨Zo, Z, ρ, Qd, Ed, v, q, l, m⟩ => ⟨Zo, Z, ρ, _, Ed, v, q, fun x H1 d x1 g1 r1 ⟨xs, hd, q1⟩ => by
    have v1 := v.ex x1 g1
    rcases hd with rfl | rfl
    · have r1' : Rq Z H1 x (.tuple xs) := r1
      cases r1' with
      | tup ha da na qa =>
        exact ⟨_, _, rfl, .inl (SqT.th ha), Zo, Z, ρ, _, Ed, v1, q1, fun ys H2 ds x2 g2 r2 q2 => l _ H2 _ (x1.trans x2) g2 (Rps.app (v1.rqs x2 qa).to r2) q2, fun c y H2 er x2 g2 r2 q2 => m c y H2 er (x1.trans x2) g2 r2 q2⟩
    · have r1' : Rq Z H1 x (.list xs) := r1
      cases r1' with
      | lst ha na qa =>
        exact ⟨_, _, rfl, .inr (SqL.of ha), Zo, Z, ρ, _, Ed, v1, q1, fun ys H2 ds x2 g2 r2 q2 => l _ H2 _ (x1.trans x2) g2 (Rps.app (v1.rqs x2 qa).to r2) q2, fun c y H2 er x2 g2 r2 q2 => m c y H2 er (x1.trans x2) g2 r2 q2⟩, m⟩
end
end VL
set_option Elab.async false
set_option linter.all false
set_option maxRecDepth 100000
set_option maxHeartbeats 4000000
/-! VL51: sorted of a list of tuples of ints, in the order of tuples -/
namespace VL
open PySem PySem.Spec PyProof.Rows L2
def lexL : List Int → List Int → Bool
  | _, [] => false
  | [], _ :: _ => true
  | x :: xs, y :: ys => if x = y then lexL xs ys else decide (x < y)
section
variable {prog : Program} {w : World} {A : Around} {s : Shared} {E : Value → Shared → Prop}
end
section
variable {X : Cx}
end
/-! ### over values -/
def sortT (L : List (List Int)) : List (List Int) := L.mergeSort fun a b => !lexL b a
@[simp] def gSortedT : List D → (D → Prop) → Prop
  | [.py (.list xs)], Q => ∃ L : List (List Int), xs = L.map tI ∧ (∀ l ∈ L, l ≠ []) ∧ Q (.py (.list ((sortT L).map tI)))
  | _, _ => False
section
variable {X : Cx} {b : Bg} {W : WX} {e : Expr} {es : List Expr} {u : VA} {p pos : Pos}
end
end VL
set_option Elab.async false
set_option linter.all false
set_option maxRecDepth 100000
set_option maxHeartbeats 4000000
/-! VL52: defs that show values (repr within a def): called where nothing is being shown -/
namespace VL
open PySem PySem.Spec PyProof.Rows L2
structure FnL (P : Program) (w : World) (K : PySem.W.Frag) (mg : Str → Option Value) (base : Heap) (k : Nat) (f : Addr) (fd : FuncData) (ps : List Str) (sp : Sp) : Prop where
  len : ∀ vs H Q E, sp vs H Q E → vs.length = ps.length
  g : FnG P w K mg base k f fd ps sp
section
variable {P : Program} {w : World} {K : PySem.W.Frag} {mg : Str → Option Value} {base : Heap} {b : Bg} {k : Nat} {f : Addr} {fd : FuncData} {N ps : List Str} {S : SV} {st : Stmt} {x qual : Str}
end
structure CalG (P : Program) (w : World) (K : PySem.W.Frag) (mg : Str → Option Value) (base : Heap) (b : Bg) (k : Nat) (x : Str) (ps : List Str) (S : SV) where
  f : Addr
  fd : FuncData
  F : FnL P w K mg base k f fd ps (spV b S)
  g : mg x = some (.ref f)
  kp : PySem.W.keepIn K (.ref f) = true
  bd : Binds K fd ps []
section
variable {X : Cx} {b : Bg} {W : WX} {k j : Nat} {f : Addr} {fd : FuncData} {ps : List Str} {S : SV} {x : Str} {e : Expr} {es : List Expr} {u : VA} {p pos : Pos} {sp : Sp} {E : L2.St → XK} {t : TA}
end
end VL
set_option Elab.async false
set_option linter.all false
set_option maxRecDepth 100000
set_option maxHeartbeats 4000000
/-! VL53: is True, is not True of bools -/
namespace VL
open PySem PySem.Spec PyProof.Rows L2
@[simp] def gIsB (neg : Bool) : D → D → (D → Prop) → Prop
  | .py (.bool a), .py (.bool b), Q => Q (.py (.bool (neg ^^ decide (a = b))))
  | _, _, _ => False
section
variable {X : Cx} {b : Bg} {W : WX} {e1 e2 : Expr} {t1 t2 : VT} {pos : Pos}
end
end VL
set_option Elab.async false
set_option linter.all false
set_option maxRecDepth 100000
set_option maxHeartbeats 4000000
/-! VL54: list(text) -/
namespace VL
open PySem PySem.Spec PyProof.Rows L2
section
variable {X : Cx}
end
@[simp] def gListA : List D → (D → Prop) → Prop
  | [.py (.list xs)], Q => Q (.py (.list xs))
  | [.py (.tuple xs)], Q => Q (.py (.list xs))
  | [.py (.str z)], Q => z.length ≤ sizeLine ∧ Q (.py (.list (signsD z)))
  | _, _ => False
section
variable {X : Cx} {b : Bg} {W : WX} {e : Expr} {es : List Expr} {u : VA} {p pos : Pos}
end
end VL
set_option Elab.async false
set_option linter.all false
set_option maxRecDepth 100000
set_option maxHeartbeats 4000000
/-! VL55: () * k -/
namespace VL
open PySem PySem.Spec PyProof.Rows L2
open AutoSeq1 (wpAny_loadPart')
section
variable {X : Cx}
end
section
variable {X : Cx} {b : Bg} {W : WX} {e1 e2 : Expr} {t1 t2 : VT} {pos : Pos}
/-- .. of a tuple that may be empty -/
@[simp] def gMulT : D → D → (D → Prop) → Prop
  | .py (.tuple xs), .py (.int k), Q => (0 ≤ k ∧ 2 ≤ k ∧ k ≤ 1000 ∧ xs.length ≤ 1000) ∧ Q (.py (.tuple (List.replicate k.toNat xs).flatten))
  | _, _, _ => False
end
end VL
set_option Elab.async false
set_option linter.all false
set_option maxRecDepth 100000
set_option maxHeartbeats 4000000
/-! VL56: a sign in a text -/
namespace VL
open PySem PySem.Spec PyProof.Rows L2 HT
open Builtin.Str in
theorem occ_full (z : Str) (c k lim : Nat) (st : Array Nat × Nat) (h2 : ¬ st.1.size < lim) : StrLaws.occBody z ⟨#[c]⟩ z.length lim k st = pure (ForInStep.yield (st.1, st.2)) := by
  unfold StrLaws.occBody
  rw [if_neg (fun q => h2 q.1.1.1)]
theorem occ_one (z : Str) (c : Nat) : ∀ (n k free : Nat) (acc : Array Nat), free ≤ k → k + n = z.length + 1 →
    (0 < (forIn (List.range' k n) (acc, free) (StrLaws.occBody z ⟨#[c]⟩ z.length 1)).run.fst.size ↔ (0 < acc.size ∨ c ∈ (sl z).drop k))
  | 0, k, free, acc, h1, h3 => by
    have : (sl z).drop k = [] := List.drop_eq_nil_of_le (by rw [slen]; omega)
    rw [this]; simp
  | n + 1, k, free, acc, h1, h3 => by
    rw [List.range'_succ, List.forIn_cons]
    by_cases ha : acc.size < 1
    · rw [occ_step z c k _ (acc, free) h1 (by show acc.size < _; omega)]
      by_cases hk : k < z.length
      · have hk' : k < (sl z).length := by rw [slen]; exact hk
        rw [List.drop_eq_getElem_cons hk', List.getElem?_eq_getElem hk']
        by_cases hc : (sl z)[k] = c
        · rw [if_pos (by rw [hc])]
          have := occ_one z c n (k + 1) (k + 1) (acc.push k) (by omega) (by omega)
          simp only [pure_bind]
          rw [this, Array.size_push]
          simp [hc]
        · rw [if_neg (by simpa using hc)]
          have := occ_one z c n (k + 1) free acc (by omega) (by omega)
          simp only [pure_bind]
          rw [this]
          have hc' : ¬ c = (sl z)[k] := fun e => hc e.symm
          have hm : (c ∈ (sl z)[k] :: (sl z).drop (k + 1)) ↔ c ∈ (sl z).drop (k + 1) := by
            rw [List.mem_cons]; exact ⟨fun h => h.resolve_left hc', .inr⟩
          rw [hm]
      · have e : (sl z).drop k = [] := List.drop_eq_nil_of_le (by rw [slen]; omega)
        rw [if_neg (by rw [List.getElem?_eq_none (by rw [slen]; omega)]; simp), e]
        have := occ_one z c n (k + 1) free acc (by omega) (by omega)
        have e2 : (sl z).drop (k + 1) = [] := List.drop_eq_nil_of_le (by rw [slen]; omega)
        rw [e2] at this
        simp only [pure_bind]
        exact this
    · rw [occ_full z c k 1 (acc, free) ha]
      have := occ_one z c n (k + 1) free acc (by omega) (by omega)
      simp only [pure_bind]
      rw [this]
      have : 0 < acc.size := by omega
      simp [this]
theorem contains_sign (z : Str) (c : Nat) : Txt.contains z (mkS [c]) = decide (c ∈ sl z) := by
  unfold Txt.contains
  have h := occ_one z c (z.length + 1 - 0) 0 0 #[] (by omega) (by omega)
  rw [StrLaws.occ_eq]
  have h' : 0 < (forIn (List.range' 0 (z.length + 1 - 0)) (#[], 0) (StrLaws.occBody z (mkS [c]) z.length 1)).run.fst.size ↔ c ∈ sl z := by
    refine h.trans ?_
    simp
  rw [Bool.eq_iff_iff, decide_eq_true_eq, ← h']
  generalize (forIn (List.range' 0 (z.length + 1 - 0)) (#[], 0) (StrLaws.occBody z (mkS [c]) z.length 1)).run.fst = A
  obtain ⟨A⟩ := A
  cases A <;> simp
@[simp] theorem contains_mkS (l : List Nat) (c : Nat) : Txt.contains (mkS l) (mkS [c]) = decide (c ∈ l) := by rw [contains_sign, sl_mkS]
end VL
set_option Elab.async false
set_option linter.all false
set_option maxRecDepth 100000
set_option maxHeartbeats 4000000
/-! VL57: x or y, where x is a text -/
namespace VL
open PySem PySem.Spec PyProof.Rows L2 HT
variable {X : Cx} {b : Bg} {W : WX} {e1 e2 : Expr} {es : List Expr} {pos : Pos} {t1 t2 : VT}
@[simp] def vOrS (ta tb : VT) : VT := fun ρ Q E => ta ρ (fun x => ∃ z : Str, x = .py (.str z) ∧ z.length ≤ 16777214 ∧ if z.length = 0 then tb ρ Q E else Q (.py (.str z))) E
end VL
set_option Elab.async false
set_option linter.all false
set_option maxRecDepth 100000
set_option maxHeartbeats 4000000
/-! VL58: a background with tables of code objects (for defs that make lambdas) -/
namespace VL
open PySem PySem.Spec PyProof.Rows L2
section
variable {b : Bg} {T : List (Addr × Str)} {Z : Addr → Prop} {H H' : Hp}
end
end VL
set_option Elab.async false
set_option linter.all false
set_option maxRecDepth 100000
set_option maxHeartbeats 4000000
/-! VL59: a lambda without parameters is made; it is called where it was handed to -/
namespace VL
open PySem PySem.Spec PyProof.Rows L2
open LamX (CodeO Tabs TabS TabB LamS lamEnv lamCx)
section
variable {X : Cx} {pins : List (Addr × Obj)} {σ : L2.St} {H : Hp} {s : Shared}
end
section
variable {X : Cx} {pins : List (Addr × Obj)} {σ : L2.St} {H : Hp} {s : Shared}
end
end VL
set_option Elab.async false
set_option linter.all false
set_option maxRecDepth 100000
set_option maxHeartbeats 4000000
/-! VL60: told(lambda: ..): the def tries what it got and tells the result or the error -/
namespace VL
open PySem PySem.Spec PyProof.Rows L2
open LamX (CodeO Tabs TabS TabB LamS lamEnv lamCx)
/-- what is told of an error -/
def toldE (names : List Str) (th : Addr → Option Addr → Er → VS) (tr : VS) (er : Er) (Q : D → Prop) : Prop := er.n ∈ names ∧ errSub er.n "LineError" = true ∧
  ∀ f a d, th a d er [.shr (.raw f), .own (.py (.list [])), .shr (.err a d er.n er.fs)] (afterS 2 { nx := fun ρ => tr ρ (fin Q noE), rt := Q, bk := fun _ => False, ct := fun _ => False, ex := fun _ _ => False })
@[simp] def vTold (names : List Str) (th : Addr → Option Addr → Er → VS) (tr : VS) (te : VT) : VT := fun ρ Q E => te ρ (fun d => ∃ p, d = .py p ∧ Q (.py (.tuple [.str "result", p]))) (fun er => toldE names th tr er Q)
section
variable {X : Cx} {b : Bg} {T : List (Addr × Str)}
end
end VL
set_option Elab.async false
set_option linter.all false
set_option maxRecDepth 100000
set_option maxHeartbeats 4000000
/-! VL61: the law's end with tables of code objects -/
namespace VL
open PySem PySem.Spec PyProof.Rows L2
end VL
set_option Elab.async false
set_option linter.all false
set_option maxRecDepth 100000
set_option maxHeartbeats 4000000
/-! VL62: defs that make lambdas; the def that is given them, as a promise -/
namespace VL
open PySem PySem.Spec PyProof.Rows L2
open LamX (LamS lamEnv lamCx)
section
variable {P : Program} {w : World} {K : PySem.W.Frag} {mg : Str → Option Value} {base : Heap} {b : Bg} {T : List (Addr × Str)}
end
/-! ### the code object of a def -/
section
variable {P : Program} {w : World} {K : PySem.W.Frag} {mg : Str → Option Value} {base : Heap} {b : Bg} {k : Nat} {x qual : Str} {st : Stmt} {f c : Addr} {fd : FuncData} {N ps : List Str} {S : SV} {sp : Sp}
end
end VL
set_option Elab.async false
set_option linter.all false
set_option maxRecDepth 100000
set_option maxHeartbeats 4000000
/-! VL63: the law's head where the law makes lambdas; the jug as a background with tables -/
namespace VL
open PySem PySem.Spec PyProof.Rows L2
section
variable {P : Program} {w : World} {K : PySem.W.Frag} {mg : Str → Option Value} {base : Heap} {k k0 : Nat} {st : Stmt} {f fo c : Addr} {fd fdo : FuncData} {N : List Str}
end
/-! ### what is never reached -/
@[simp] def vNo : VT := fun _ _ _ => False
@[simp] def sNo : VS := fun _ _ => False
end VL
set_option Elab.async false
set_option linter.all false
set_option maxRecDepth 100000
set_option maxHeartbeats 4000000
/-! VL64: sorted(set(t)), t a tuple of ints -/
namespace VL
open PySem PySem.Spec PyProof.Rows L2
section
variable {X : Cx}
end
@[simp] def vSortSet (t : VT) : VT := fun ρ Q E => t ρ (fun d => ∃ xs ns, d = .py (.tuple xs) ∧ allI xs = some ns ∧ ns.length < 63 ∧ ∀ ks : List Int, ks.Pairwise (· < ·) → (∀ j, j ∈ ks ↔ j ∈ ns) → Q (.py (.list (ks.map PyData.int)))) E
end VL
set_option Elab.async false
set_option linter.all false
set_option maxRecDepth 100000
set_option maxHeartbeats 4000000
/-! VL65: t * k, k at least 1, of a tuple that is not empty -/
namespace VL
open PySem PySem.Spec PyProof.Rows L2
open AutoSeq1 (wpAny_loadPart')
section
variable {X : Cx}
end
section
variable {X : Cx} {b : Bg} {W : WX} {e1 e2 : Expr} {t1 t2 : VT} {pos : Pos}
@[simp] def gMulP : D → D → (D → Prop) → Prop
  | .py (.tuple xs), .py (.int k), Q => (xs ≠ [] ∧ 1 ≤ k ∧ k ≤ 1000 ∧ xs.length ≤ 1000) ∧ Q (.py (.tuple (List.replicate k.toNat xs).flatten))
  | _, _, _ => False
end
end VL
set_option Elab.async false
set_option linter.all false
set_option maxRecDepth 100000
set_option maxHeartbeats 4000000
/-! VL66: a caught error handed to a def that asks it -/
namespace VL
open PySem PySem.Spec PyProof.Rows L2
open L2H (PinOk RoomH cxH inv_startH)
abbrev SE := Er → (D → Prop) → Prop
def svE (a : Addr) (d : Option Addr) (er : Er) (S : SE) : SV := fun ds Q _ => ds = [.err a d er.n er.fs] ∧ S er Q
/-- what such a def promises: within a suite, of the error that is handled -/
structure FnE (P : Program) (w : World) (K : PySem.W.Frag) (mg : Str → Option Value) (base : Heap) (b : Bg) (k : Nat) (f : Addr) (fd : FuncData) (ps : List Str) (S : SE) : Prop where
  len : ps.length = 1
  run : ∀ (A : Around) (outer : List Env) (s : Shared) (H : Hp) (args : Args) (Q : VK) (p : Addr × Obj) (d : Option Addr) (er : Er), RoomH k A → A.handled = some (.ref p.1) → (∃ vs : Array Value, p.2.data = .fields vs) → Zc (.ref (b.cls er.n)) d p.2 → PinOk outer H s p →
    Env0 P w K mg base A outer s H → BindsTo s fd args (ps.zip [.ref p.1]) → spV b (svE p.1 d er S) [.ref p.1] H Q (fun _ _ _ => False) → codeAny (model P w) A (.call (.ref f) args) (CR (L2.CX P w) outer P w H s Q (fun _ _ _ => False)) s
section
variable {P : Program} {w : World} {K : PySem.W.Frag} {mg : Str → Option Value} {base : Heap} {b : Bg} {k : Nat} {x qual : Str} {st : Stmt} {f : Addr} {fd : FuncData} {N ps : List Str} {S : SE}
end
/-- a def that asks an error: all that its call wants -/
structure CalE (P : Program) (w : World) (K : PySem.W.Frag) (mg : Str → Option Value) (base : Heap) (b : Bg) (k : Nat) (x : Str) (ps : List Str) (S : SE) where
  f : Addr
  fd : FuncData
  F : FnE P w K mg base b k f fd ps S
  g : mg x = some (.ref f)
  kp : PySem.W.keepIn K (.ref f) = true
  bd : Binds K fd ps []
@[simp] def vCallE (a : Addr) (d : Option Addr) (er : Er) (i : Nat) (S : SE) : VT := fun ρ Q _ => ρ[i]? = some (.shr (.err a d er.n er.fs)) ∧ S er Q
section
variable {X : Cx} {b : Bg} {W : WX} {a : Addr} {oe : Obj} {er : Er} {d : Option Addr} {pn : List (Addr × Obj)} {i k : Nat} {x : Str} {ps : List Str} {S : SE} {e : Expr} {p pos : Pos}
end
end VL
set_option Elab.async false
set_option linter.all false
set_option maxRecDepth 100000
set_option maxHeartbeats 4000000
/-! VL67: the crank: a list of two numbers and a list -/
namespace VL
open PySem PySem.Spec PyProof.Rows L2
def crankAt (r l : Addr) (gs : List Int) (H : Hp) : Prop := ∃ x n : Int, H r = some (.lst [.int x, .int n, .ref l]) ∧ H l = some (.lst (gs.map V.int)) ∧ gs.length ≤ 63
theorem crankAt.ne {r l : Addr} {gs : List Int} {H : Hp} (h : crankAt r l gs H) : r ≠ l := fun e => by
  obtain ⟨x, n, h1, h2, _⟩ := h
  subst e
  rw [h1] at h2
  match gs, h2 with
  | [], h2 => cases h2
  | [_], h2 => cases h2
  | [_, _], h2 => cases h2
  | _ :: _ :: _ :: _, h2 => cases h2
def crankB (cls : Str → Addr) (r l : Addr) : Bg where
  cls := cls
  B := fun a => a = r ∨ a = l
  G := fun H => ∃ gs, crankAt r l gs H
  loc := fun H H' h _ ⟨gs, x, n, e1, e2, e3⟩ => ⟨gs, x, n, by rw [h r (.inl rfl)]; exact e1, by rw [h l (.inr rfl)]; exact e2, e3⟩
  dom := fun H a ⟨gs, x, n, e1, e2, e3⟩ h => by
    rcases h with rfl | rfl
    · rw [e1]; simp
    · rw [e2]; simp
theorem KeepJ.exC {cls : Str → Addr} {r l : Addr} {H H' : Hp} (k : KeepJ r l H H') : Ex (crankB cls r l) H H' := fun a o e n => k a o e (fun h => n (.inl h)) fun h => n (.inr h)
def spWind : Sp := fun vs H Q _ => ∃ r l gs, ∃ m : Int, vs = [.ref r, .int m] ∧ crankAt r l gs H ∧ 0 < m ∧ m < 1606938044258990275541962092341162602522202993782792835301376 ∧ ∀ H' gs' x, KeepJ r l H H' → crankAt r l gs' H' → 0 ≤ x → x < m → Q (.int x) H'
theorem wind_v {P : Program} {w : World} {K : PySem.W.Frag} {mg : Str → Option Value} {base : Heap} {k : Nat} {f : Addr} {fd : FuncData} {ps : List Str} {CX : CXT} {cls : Str → Addr} {r l1 : Addr} (h : FnOk P w K mg base CX k f fd ps spWind) : FnOk P w K mg base CX k f fd ps (spV (crankB cls r l1) (svTake r)) :=
  h.imp fun vs H Q E ⟨Z, ds, Qd, Ed, g, rp, hh, l, _⟩ => by
    obtain ⟨m, ed, h1, h2, q⟩ := svTake_ex hh
    subst ed
    obtain ⟨x, y, rfl, rx, ry⟩ := rbs2 rp
    have ex : x = .ref r := rx
    have ey : y = .int m := Rb.int (b := crankB cls r l1) (.inl ry)
    subst ex ey
    obtain ⟨gs, hb⟩ := g.g
    exact ⟨r, l1, gs, m, rfl, hb, h1, h2, fun H' gs' x kp b' x0 x1 => l (.int x) H' (.py (.int x)) kp.exC ⟨gs', b'⟩ (.int x) (q x x0 x1)⟩
def spCrank (K : PySem.W.Frag) : Sp := fun vs H Q _ => ∃ (a : Addr) (ns : List Int), vs = [.ref a] ∧ SqL K H a (ns.map V.int) ∧ ns.length ≤ 63 ∧ ∀ r l H', (∀ c o, H c = some o → H' c = some o) → (∃ gs, crankAt r l gs H') → Q (.ref r) H'
end VL
set_option Elab.async false
set_option linter.all false
set_option maxRecDepth 100000
set_option maxHeartbeats 4000000
/-! VL68: parameters ahead of a star; keyword-only parameters. -/
namespace VL
open PySem PySem.Spec PyProof.Rows L2
/-! ### def f(a, .., *v) -/
@[simp] def svStarN (n : Nat) (S : SV) : SV := fun ds Q E => n ≤ ds.length ∧ ∃ ps, pys (ds.drop n) = some ps ∧ ps.length ≤ sizeLine ∧ S (ds.take n ++ [.py (.tuple ps)]) Q E
theorem Rps.take {b : Bg} {Z : Addr → Prop} {H : Hp} : ∀ {v : List V} {d : List D} (n : Nat), Rps b Z H v d → Rps b Z H (v.take n) (d.take n)
  | _, _, 0, _ => .nil
  | _, _, _ + 1, .nil => .nil
  | _, _, n + 1, .cons r t => .cons r (Rps.take n t)
theorem Rps.drop {b : Bg} {Z : Addr → Prop} {H : Hp} : ∀ {v : List V} {d : List D} (n : Nat), Rps b Z H v d → Rps b Z H (v.drop n) (d.drop n)
  | _, _, 0, r => r
  | _, _, _ + 1, .nil => .nil
  | _, _, n + 1, .cons _ t => Rps.drop n t
theorem Rps.append {b : Bg} {Z : Addr → Prop} {H : Hp} : ∀ {v w : List V} {d e : List D}, Rps b Z H v d → Rps b Z H w e → Rps b Z H (v ++ w) (d ++ e)
  | _, _, _, _, .nil, s => s
  | _, _, _, _, .cons r t, s => .cons r (Rps.append t s)
theorem spStarN {b : Bg} {S : SV} {n : Nat} {vs : List V} {H : Hp} {Q : VK} {E : XK} (h : spV b (svStarN n S) vs H Q E) : ∃ ws rest, vs = ws ++ rest ∧ ws.length = n ∧ rest.length ≤ sizeLine ∧ ∀ p, H p = none → ∀ o : Obj, o.dict = none → spV b S (ws ++ [V.ref p]) (upd H p (HO.th o rest)) Q E := by
  obtain ⟨Z, ds, Qd, Ed, g, r, ⟨hn, ps, e, hl, s⟩, l, m⟩ := h
  have r2 := (r.drop n).pyL e
  refine ⟨vs.take n, vs.drop n, (List.take_append_drop n vs).symm, by rw [List.length_take, r.length]; omega, by rw [r2.length]; exact hl, fun p hp o ho => ⟨Z, ds.take n ++ [.py (.tuple ps)], Qd, Ed, ⟨g.new hp, g.zb, fun a z => ?_⟩, ?_, s, fun v H' d x g1 r1 q => l v H' d ((Ex.new hp).trans x) g1 r1 q, fun c y H' er x g1 r1 q => m c y H' er ((Ex.new hp).trans x) g1 r1 q⟩⟩
  · by_cases ea : a = p
    · subst ea; rw [upd_same]; simp
    · rw [upd_ne ea]; exact g.dom a z
  · refine Rps.append ((r.take n).mono (fun _ z => .inl z) (VL.up hp)) (.cons ?_ .nil)
    show Rq Z (upd H p (HO.th o (vs.drop n))) (.ref p) (.tuple ps)
    exact Rq.tup upd_same ho (g.fresh hp) (r2.up hp)
section
variable {CX : CXT} {P : Program} {w : World} {K : PySem.W.Frag} {mg : Str → Option Value} {base : Heap} {k : Nat} {f : Addr} {name qual : Str} {params : Arguments} {body : List Stmt} {scope : Scope} {dV kV doc pm cdv ct oc : Value} {an od : Option Addr}
  {osl : Array (Option Value)} {N ps : List Str} {sp : Sp}
theorem fn_starFN {pv : Str} (lk : K.lookup f = some ⟨oc, od, .func (PySem.W.fnOf name qual params body scope dV kV doc pm an cdv ct), osl⟩) (hcd : PySem.W.codeIn K cdv qual = true) (S : FnScope N (ps ++ [pv]) scope) (hCX : StX.CXUp CX)
    (hb : ∀ us rest : List Value, us.length = ps.length → bindArgs (PySem.W.fnOf name qual params body scope dV kV doc pm an cdv ct) ⟨us ++ rest, []⟩ = (newTuple rest >>= fun t => pure (ps.zip us ++ [(pv, t)])))
    (hbody : ∀ (A : Around) (outer : List Env) (s : Shared) (H : Hp) (vs : List V) (Q : VK) (E : XK), Room k (A.deeper (envOfC qual scope s.heap.objs.size f cdv)) → sp vs H Q E →
      ∃ t, PSs (cxOf CX P w K mg base N qual scope f cdv A outer s H E) body t ∧ t { nx := fun _ H' => Q .non H', rt := Q } (L2.start N vs) H) :
    FnR P w K mg base CX (k + 1) f (fun vs H Q E => ∃ ws rest, vs = ws ++ rest ∧ ws.length = ps.length ∧ rest.length ≤ sizeLine ∧ ∀ p, H p = Option.none → ∀ o : Obj, o.dict = none → sp (ws ++ [V.ref p]) (upd H p (HO.th o rest)) Q E) := by
  intro A outer s H us vs Q E hr e0 r hsp
  obtain ⟨ws, rest, ev, hl, hz, hq⟩ := hsp
  subst ev
  obtain ⟨u1, u2, eu, r1, r2⟩ := StX.vals_split r
  subst eu
  have hn : H s.heap.objs.size = Option.none := e0.hok.fresh (Nat.le_refl _)
  have hl1 : u1.length = ps.length := by rw [← r1.length]; exact hl
  have hl2 : u2.length ≤ sizeLine := by rw [← r2.length]; exact hz
  refine StX.run_bnd lk hcd S hr e0 (G := fun xs H2 => ∃ p, H p = Option.none ∧ ∃ o : Obj, o.dict = none ∧ xs = ws ++ [V.ref p] ∧ H2 = upd H p (HO.th o rest)) (fun A' Ex Q' h => ?_) fun s2 H2 xs ⟨p, hp, o, ho, ex, eH⟩ hr' => ?_
  · rw [hb u1 u2 hl1]
    refine wpAny_bind (wpAny_newTuple (wpAny_pure ?_) hl2)
    have new : ObjOk P w (upd H s.heap.objs.size (HO.th (tob u2) rest)) (s.heap.push (tob u2)) s.heap.objs.size (HO.th (tob u2) rest) := th_ok hz r2 (Heap.get?_push_size _ rfl)
    have un := StX.un_laid (fs := frs outer) (s := s) (o := tob u2) (u := HO.th (tob u2) rest) hn
    have z := h _ _ (ws ++ [V.ref s.heap.objs.size]) (u1 ++ [Value.ref s.heap.objs.size]) (StX.env0_laid e0 new) un rfl (fun e s' => hCX outer s H _ _ E e s' un (fun b o q => Heap.get?_push_of_some _ q) rfl) (r1.append (.cons rfl .nil)) (by rw [List.length_append, List.length_append, hl] <;> rfl) ⟨_, hn, tob u2, rfl, rfl, rfl⟩
    rw [List.zip_append hl1.symm] at z
    exact z
  · subst ex eH
    exact hbody A outer s2 _ _ Q E hr' (hq p hp o ho)
end
section
variable {P : Program} {w : World} {K : PySem.W.Frag} {mg : Str → Option Value} {base : Heap} {b : Bg} {k : Nat} {x qual pv : Str} {st : Stmt} {f : Addr} {fd : FuncData} {N ps : List Str} {S : SV}
theorem fnStarN (F : Fun K x qual st f fd) (Sc : FnScope N (ps ++ [pv]) (defScope st)) {t : VS} (hlen : ∀ ds Q E, S ds Q E → ds.length = ps.length + 1) (hps : ps.length + 1 ≤ N.length)
    (hb : ∀ (kV doc pm : Value) (an : Option Addr) (cdv ct : Value) (us rest : List Value), us.length = ps.length → bindArgs (PySem.W.fnOf x qual (defArgs st) (defBody st) (defScope st) .none kV doc pm an cdv ct) ⟨us ++ rest, []⟩ = (newTuple rest >>= fun t => pure (ps.zip us ++ [(pv, t)])))
    (hbody : ∀ (cdv : Value) (A : Around) (outer : List Env) (s : Shared) (H : Hp) (E : XK), Room k (A.deeper (envOfC qual (defScope st) s.heap.objs.size f cdv)) →
      Takes (cxOf (L2.CX P w) P w K mg base N qual (defScope st) f cdv A outer s H E) (WF E) → VSs (cxOf (L2.CX P w) P w K mg base N qual (defScope st) f cdv A outer s H E) b (WF E) (defBody st) t)
    (hlaw : ∀ ds Q E, S ds Q E → t (envOf N.length ds) (fin Q E)) : FnR P w K mg base (L2.CX P w) (k + 1) f (spV b (svStarN ps.length S)) := by
  have len : ∀ vs H Q E, spV b S vs H Q E → vs.length = ps.length + 1 := fun vs H Q E ⟨Z, ds, Qd, Ed, g, r, s, _⟩ => r.length.trans (hlen ds Qd Ed s)
  obtain ⟨oc, od, kV, doc, pm, an, cdv, ct, osl, rfl, lk, hcd⟩ := F.ex
  exact (fn_starFN (sp := spV b S) lk hcd Sc StX.cxUp (hb kV doc pm an cdv ct) fun A outer s H vs Q E hr h => ⟨_, hbody cdv A outer s H E hr (takes_of rfl rfl rfl rfl), fin_link hlaw (Nat.le_trans (Nat.le_of_eq (len _ _ _ _ h)) hps) h⟩).imp fun vs H Q E h => spStarN h
end
/-! ### def f(a, .., *, k=c) -/
structure CalW (P : Program) (w : World) (K : PySem.W.Frag) (mg : Str → Option Value) (base : Heap) (b : Bg) (k : Nat) (x : Str) (ps : List Str) (kn : Str) (dv : PyData) (S : SV) where
  f : Addr
  fd : FuncData
  F : FnOk P w K mg base (L2.CX P w) k f fd (ps ++ [kn]) (spV b S)
  g : mg x = some (.ref f)
  kp : PySem.W.keepIn K (.ref f) = true
  b0 : ∃ v ds, Vals [v] ds ∧ Binds K fd (ps ++ [kn]) ds ∧ ∀ Z H, Rq Z H v dv
  b1 : KBn K fd (ps ++ [kn]) ps.length [kn] (fun us ws => us ++ ws) (fun vs zs => vs ++ zs)
@[simp] def svW (dv : PyData) (S : SV) : SV := fun ds Q E => S (ds ++ [.py dv]) Q E
@[simp] def vCallW (S : SV) (u : VA) (t : VT) : VT := fun ρ Q E => u ρ (fun ds => t ρ (fun d => S (ds ++ [d]) Q E) E) E
section
variable {X : Cx} {b : Bg} {W : WX} {k j : Nat} {x kn : Str} {ps : List Str} {dv : PyData} {S : SV} {e e2 : Expr} {es : List Expr} {u : VA} {t : VT} {p pos kpos : Pos}
end
end VL
set_option Elab.async false
set_option linter.all false
set_option maxRecDepth 100000
set_option maxHeartbeats 4000000
/-! VL69: text.index(text) -/
namespace VL
open PySem PySem.Spec PyProof.Rows L2
@[simp] def gTIndex : D → List D → (D → Prop) → Prop
  | .py (.str a), [.py (.str b)], Q => ∃ i rest, Builtin.Str.occurrences a b 0 a.length 1 = i :: rest ∧ Q (.py (.int (i : Nat)))
  | _, _, _ => False
/-! ### x is True where x may be None -/
@[simp] def gIsBn : D → D → (D → Prop) → Prop
  | .py (.bool a), .py (.bool b), Q => Q (.py (.bool (decide (a = b))))
  | .py .none, .py (.bool _), Q => Q (.py (.bool false))
  | _, _, _ => False
section
variable {X : Cx} {b : Bg} {W : WX} {e1 e2 : Expr} {t1 t2 : VT} {pos : Pos}
end
end VL
set_option Elab.async false
set_option linter.all false
set_option maxRecDepth 100000
set_option maxHeartbeats 4000000
/-! VL70: max, min of a tuple of ints -/
namespace VL
open PySem PySem.Spec PyProof.Rows L2
section
variable {X : Cx}
end
@[simp] def gMaxT : List D → (D → Prop) → Prop
  | [.py (.tuple xs)], Q => ∃ ns, allI xs = some ns ∧ ns ≠ [] ∧ Q (.py (.int (maxL ns)))
  | _, _ => False
@[simp] def gMinT : List D → (D → Prop) → Prop
  | [.py (.tuple xs)], Q => ∃ ns, allI xs = some ns ∧ ns ≠ [] ∧ Q (.py (.int (minL ns)))
  | _, _ => False
section
variable {X : Cx} {b : Bg} {W : WX} {e : Expr} {es : List Expr} {u : VA} {p pos : Pos} {t : VT}
end
end VL
set_option Elab.async false
set_option linter.all false
set_option maxRecDepth 100000
set_option maxHeartbeats 4000000
/-! VL71: a list comprehension whose items may raise -/
namespace VL
open PySem PySem.Spec PyProof.Rows L2
theorem noteFrame_congr {e : Value} {x y : Env} (h : x.frame = y.frame) : noteFrame e x = noteFrame e y := by
  unfold noteFrame PySem.frameOf
  rw [h]
theorem hide1 {B : Heap} {C b : Addr} {o : Obj} (e : B.get? b = some o) (n : b ≠ C) : (PySem.W.hideAll B [C]).get? b = some o := PySem.W.hideAll_get _ e (by simpa using n)
theorem of_hide1 {B : Heap} {C b : Addr} {o : Obj} (e : (PySem.W.hideAll B [C]).get? b = some o) : B.get? b = some o ∧ b ≠ C := ⟨PySem.W.of_hideAll _ e, fun q => by
  rw [q, PySem.W.hideAll_none _ (by simp)] at e
  cases e⟩
/-- an exception of a call within the block leaves the block -/
theorem xe_block {X : Cx} {W : WX} (hs : X.stack = X.env :: X.outer) (hf : X.env.frame = some X.env.locals) (tk : Takes X W) {pins : List (Addr × Obj)} {σ : L2.St} {H : Hp} {s : Shared} {C : Addr} (I : Inv X pins σ H s) (hC : FpOk X pins H C) (hCd : ∃ m, s.heap.Ns C m)
    {E0 : XK} (hW : ∀ cls d H', E0 cls d H' → W cls d σ H') {u : Value} {s' : Shared} (c : L2.CX X.prog X.w X.stack H s E0 u s') {ce : Env} (e1 : ce.frame = X.env.frame) :
    notedBy (model X.prog X.w) X.A ce (fun x s'' => ∃ m, s''.heap.Ns C m ∧ ∀ h', Heap.SameBut C s''.heap h' → wpAny (model X.prog X.w) X.A (PySem.passOn "comprehension.variables-let-go" x ce : Sem Value) (fun _ _ => False) X.xe { s'' with heap := h' }) u s' := by
  obtain ⟨a, B, H', cls, d, rfl, fl, hok, ub, na, os, ag, hE⟩ := c
  have hfr : X.A.frames = some (X.env :: X.outer) := by rw [I.ok.frames, hs]
  have hCs : C ∉ frs X.stack := by
    rw [hs]
    show C ∉ (X.env :: X.outer).filterMap (·.frame)
    rw [List.filterMap_cons, hf]
    intro hm
    rcases List.mem_cons.mp hm with z | z
    · exact hC.2.1 z
    · exact hC.2.2.1 z
  have fl2 := fl
  rw [hs] at fl2
  show wpAny _ _ (noteFrame (.ref a) ce) _ _ s'
  rw [noteFrame_congr e1]
  refine HandSPX.looks_onZ Zc.steady hfr hf fl2 fun h1 held up1 => ?_
  obtain ⟨m, oC, es, ep, hoC, hdC, rC⟩ := hCd
  have hBC : B.get? C = some oC := ub.keep C oC hoC hC.1 hCs
  have hHC : H' C = none := ub.free C oC hoC hC.1
  refine ⟨m, ⟨oC, es, ep, held.1 C oC hBC, hdC, rC⟩, fun h2 sb => ?_⟩
  -- the ground without the block's own names
  have held2 : HandSPX.HeldZ (PySem.W.hideAll B [C]) (X.env :: X.outer) a (Zc cls d) X.env.locals h2 := by
    obtain ⟨k1, k2, k3, oe, vs, T, oT, ts, he, hz, hd, hv1, hnT, hTe, hT, hdT, h3⟩ := held
    have nf : ∀ b o vs, h1.get? b = some o → o.data = .fields vs → b ≠ C := fun b o vs e q z => by
      rw [z, k1 C oC hBC] at e
      cases e
      rw [hdC] at q
      cases q
    have hn : ∀ b, B.get? b = none → (PySem.W.hideAll B [C]).get? b = none := fun b q => by
      cases z : (PySem.W.hideAll B [C]).get? b with
      | none => rfl
      | some o => rw [(of_hide1 z).1] at q; cases q
    refine ⟨fun b o e => ?_, hn a k2, ?_, oe, vs, T, oT, ts, (sb.2 a (nf a oe vs he hd)).trans he, hz, hd, hv1, hn T hnT, hTe, (sb.2 T (nf T oT ts hT hdT)).trans hT, hdT, h3⟩
    · obtain ⟨e, n⟩ := of_hide1 e
      exact (sb.2 b n).trans (k1 b o e)
    · have go : ∀ l : List Env, (∀ L ∈ l.filterMap (·.frame), L ≠ C) → h1.FunFrames B l → h2.FunFrames (PySem.W.hideAll B [C]) l := by
        intro l
        induction l with
        | nil => intro _ _; trivial
        | cons en l ih =>
          intro hne ⟨f1, ⟨L, o, f2, f3, f4, f5⟩, f6⟩
          have hL : L ≠ C := hne L (by rw [List.filterMap_cons, f2]; exact List.mem_cons_self)
          exact ⟨f1, ⟨L, o, f2, hn L f3, (sb.2 L hL).trans f4, f5⟩, ih (fun L hm => hne L (by rw [List.filterMap_cons, f2]; exact List.mem_cons_of_mem _ hm)) f6⟩
      refine go _ (fun L hm z => hCs ?_) k3
      rw [hs, ← z]
      exact hm
  have hx := held2
  obtain ⟨_, _, _, oe, vs, T, oT, ts, he, hz, hd, hv1, hnT, hTe, hT, hdT, h3⟩ := hx
  unfold PySem.passOn
  refine wpAny_bind (wpAny_field he hd hv1 ?_)
  rw [if_neg (by simp)]
  rw [e1, hf]
  refine wpAny_bind (HandSPX.setFlight_onZ held2 fun h4 held4 up4 => ?_)
  refine wpAny_throw (tk _ _ ?_)
  obtain ⟨G, g1, g2⟩ := restrict h4 fun b => ((PySem.W.hideAll B [C]).get? b).isSome || decide (b ∈ frs X.stack)
  have st : (PySem.W.hideAll B [C]).StaysIn h4 := held4.1
  have gB : ∀ b o, (PySem.W.hideAll B [C]).get? b = some o → G.get? b = some o := fun b o e => by
    rw [g1 b (by simp [e])]
    exact st b o e
  have gF : ∀ b, b ∈ frs X.stack → G.get? b = h4.get? b := fun b hb => g1 b (by simp [hb])
  have og : ∀ b o, G.get? b = some o → h4.get? b = some o ∧ (((PySem.W.hideAll B [C]).get? b).isSome = true ∨ b ∈ frs X.stack) := fun b o e => by
    cases q : (((PySem.W.hideAll B [C]).get? b).isSome || decide (b ∈ frs X.stack)) with
    | false => rw [g2 b q] at e; cases e
    | true =>
      rw [g1 b q] at e
      exact ⟨e, by simpa [Bool.or_eq_true] using q⟩
  have fr4 : ∀ b o, s.heap.get? b = some o → b ∈ frs X.stack → ∃ sl, h4.get? b = some { o with slots := sl } := fun b o e hb => by
    obtain ⟨_, o0, e0, hnf⟩ := I.stack.mem hb
    rw [e] at e0; cases e0
    obtain ⟨sl, q⟩ := ub.slot b o e hb
    obtain ⟨sl2, q2⟩ := up1 b _ q hnf
    have q3 := (sb.2 b fun z => hCs (by rw [← z]; exact hb)).trans q2
    obtain ⟨sl3, q4⟩ := up4 b _ q3 hnf
    exact ⟨sl3, q4⟩
  refine ⟨a, PySem.W.hideAll B [C], { s with heap := G, gens := s'.gens, drawn := s'.drawn, toks := s'.toks }, pins, σ, H', cls, d, rfl, ?_, fun b o e hb => ?_, Heap.UpToSlots.of_keeps fun b o e => (og b o e).1, .inr (.inr (by rw [hs]; exact held4)), na, os, ag, hW _ _ _ hE⟩
  · refine I.call (ch := [C]) ⟨fun b o e n hb hc => gB b o (hide1 (ub.keep b o e n hb) (by simpa using hc)), fun b o e n hb _ => ?_, fun b o e n _ => ub.free b o e n, fun b o e hc => ?_, ub.tups, ub.frzs, ub.tbls⟩ ?_ ag (fun b z => ?_)
    · obtain ⟨sl, q⟩ := fr4 b o e hb
      exact ⟨sl, by rw [gF b hb]; exact q⟩
    · by_cases hb : b ∈ frs X.stack
      · obtain ⟨sl, q⟩ := fr4 b o e hb
        exact ⟨_, by rw [gF b hb]; exact q⟩
      · obtain ⟨o', q⟩ := ub.there b o e hb
        exact ⟨o', gB b o' (hide1 q (by simpa using hc))⟩
    · intro b o q
      refine (hok b o q).stay (fun c v hc r => gB c v (hide1 r fun z => ?_)) (fun _ r => r) fun _ _ r => r
      rcases hc with hc | hc
      · rw [← hc, z, hHC] at q; cases q
      · rw [z, hHC] at hc; cases hc
    · rw [List.mem_singleton.mp z]
      exact ⟨hC.2.2.2.1, hC.2.1, hC.2.2.2.2.1, hC.2.2.2.2.2⟩
  · obtain ⟨e', h⟩ := og b o e
    rcases h with h | h
    · obtain ⟨o', q⟩ := Option.isSome_iff_exists.mp h
      have z := st b o' q
      rw [e'] at z; cases z
      exact q
    · exact absurd h hb
end VL
namespace VL
open PySem PySem.Spec PyProof.Rows L2
section
variable {M : Model} {A : Around} {E : Value → Shared → Prop} {s : Shared} {env : Env}
/-- behind the block: as it ended; an error knows the block's own environment -/
def postE (M : Model) (A : Around) (E : Value → Shared → Prop) (use : Option (Value → Sem Unit)) (Q : Value → Shared → Prop) (acc : Value) (ce : Env) (r : Result) (s' : Shared) : Prop :=
  match r with
  | .ok f => compPost M A E use Q acc ce.locals (.ok f) s'
  | .error x => ∃ m, s'.heap.Ns ce.locals m ∧ ∀ h', Heap.SameBut ce.locals s'.heap h' → wpAny M A (PySem.passOn "comprehension.variables-let-go" x ce : Sem Value) (fun _ _ => False) E { s' with heap := h' }
theorem comp_freeE {e : Expr} {scope : Scope} {pos : Pos} {newAcc first : Sem Value} {g : Comprehension} {gs : List Comprehension} {cl : List (Str × Addr)} {use : Option (Value → Sem Unit)} {Q : Value → Shared → Prop}
    (hcl : clausesOf e = g :: gs) (hs : ∀ x, foldedSetIterable g.iter env x = pure x) (hclos : closureFor scope env = pure cl)
    (hkind : scope.kind = .function) (hnames : ∀ x ∈ scope.names, x.2 = .local → scope.names.lookup x.1 = some .local)
    (h : wpAny M A first (fun x s₁ => wpAny M A (pyIter x) (fun it s₂ => wpAny M A newAcc (fun acc s₃ =>
      wpAny M A (newFunctionEnv scope env.globals cl [] env.qual none .none (some env)) (fun cenv s₄ =>
        codeAny M A (.compStart e 0 it acc { cenv with scope := relabel scope env }) (postE M A E use Q acc { cenv with scope := relabel scope env }) s₄) E s₃) E s₂) E s₁) E s) :
    wpAny M A (comprehension e scope env pos newAcc false first use) Q E s := by
  unfold comprehension
  rw [hclos, hcl]
  refine wpAny_bind (wpAny_mono h (fun x s₁ h₁ => wpAny_bind (wpAny_standAt (wpAny_bind (wpAny_of_eq (hs x) (wpAny_bind (wpAny_holding (wpAny_mono h₁ (fun it s₂ h₂ =>
    wpAny_standIf (wpAny_bind (wpAny_mono h₂ (fun acc s₃ h₃ => wpAny_bind (wpAny_pure (wpAny_bind (wpAny_mono h₃ (fun cenv s₄ h₄ => ?_) fun _ _ h' => h')))) fun _ _ h' => h')))
      fun _ _ h' => h'))))))) fun _ _ h' => h')
  dsimp only
  have hv : ∀ x ∈ (scope.names.filter fun x => (x.2 == .local || x.2 == .cell) && x.1 != (".0" : Str)).reverse, x.2 = .local →
      Env.kindOf { cenv with scope := relabel scope env } x.1 = some .local := fun x hx hl => lookup_relabel_local (hnames x (List.mem_filter.mp (List.mem_reverse.mp hx)).1 hl)
  have hv' : ∀ x ∈ (scope.names.filter fun x => (x.2 == .local || x.2 == .cell) && x.1 != (".0" : Str)).reverse.drop 1 ++ (scope.names.filter fun x => (x.2 == .local || x.2 == .cell) && x.1 != (".0" : Str)).reverse.take 1,
      x.2 = .local → Env.kindOf { cenv with scope := relabel scope env } x.1 = some .local := fun x hx hl => by
    rcases List.mem_append.mp hx with h1 | h1
    · exact hv x (List.mem_of_mem_drop h1) hl
    · exact hv x (List.mem_of_mem_take h1) hl
  refine wpAny_holding (wpAny_bind (wpAny_attempt (wpAny_holding (wpAny_run (codeAny_mono h₄ fun r s' hr => ?_)))))
  cases r with
  | ok f =>
    have hr : compPost M A E use Q acc cenv.locals (.ok f) s' := hr
    cases use with
    | none =>
      obtain ⟨m, hn, hr⟩ := hr
      exact wpAny_bind (wpAny_holding (wpAny_comp_letGo (cenv := { cenv with scope := relabel scope env }) hkind _ s' m hv hn fun h' m' _ hs' => wpAny_pure (hr h' hs')))
    | some u =>
      refine wpAny_bind (wpAny_rule (wpAny_bind (wpAny_holding (wpAny_mono hr (fun _ s'' hr' => ?_) fun _ _ h' => h'))))
      obtain ⟨m, hn, hr'⟩ := hr'
      exact wpAny_bind (wpAny_comp_letGo (cenv := { cenv with scope := relabel scope env }) hkind _ s'' m hv' hn fun h' m' _ hs' => wpAny_pure (hr' h' hs'))
  | error x =>
    obtain ⟨m, hn, hr⟩ := hr
    exact wpAny_bind (wpAny_holding (wpAny_comp_letGo (cenv := { cenv with scope := relabel scope env }) hkind _ s' m hv hn fun h' m' _ hs' => wpAny_mono (hr h' hs') (fun _ _ f => f.elim) fun _ _ y => y))
end
end VL
namespace VL
open PySem PySem.Spec PyProof.Rows L2
theorem inv_xe {X : Cx} {f : Value → Shared → Prop} {pins : List (Addr × Obj)} {σ : L2.St} {H : Hp} {s : Shared} (J : Inv X pins σ H s) : Inv { X with xe := f } pins σ H s :=
  ⟨⟨J.ok.mod, J.ok.kind, J.ok.glob, J.ok.blt, J.ok.above, J.ok.inj, J.ok.has, J.ok.cab, J.ok.hd, J.ok.frames, J.ok.stk, J.ok.exf, J.ok.bs, J.ok.bsz, J.ok.noex, J.ok.exfs, J.ok.funs, J.ok.frf⟩, J.os, J.bare, J.base, J.loc, J.cell, J.free, J.freeC, J.pin, J.hok, J.len⟩
abbrev blkE (X : Cx) (s : Shared) (H : Hp) (scope : Scope) (cenv : Env) (fp : List Addr) (f : Value → Shared → Prop) : Cx := { X.blk s H scope cenv fp with xe := f }
section
variable {X : Cx}
theorem lc_coreE {W : WX} (hst : X.stack = X.env :: X.outer) (hfr : X.env.frame = some X.env.locals) (tk : Takes X W) {pins : List (Addr × Obj)} {s : Shared} {σ : L2.St} {H : Hp} {Q : VK} {elt tg iter : Expr} {ifs : List Expr} {scope : Scope} {own : List (Str × Nat)} {pos pos' : Pos} {wi : TI} {g : TG} {tt : TT} {te : XK → TE} {use : Option (Value → Sem Unit)} {Qf : Value → Shared → Prop}
    (hc : X.calm = true) (hN : X.N.Nodup) (I : Inv X pins σ H s) (hi : PI X tg iter wi) (ok : BlkOk X.N X.env.scope scope own)
    (hg : ∀ (s : Shared) (H : Hp) (C : Addr) (cl : List (Str × Addr)) (fp : List Addr), PG (X.blk s H scope (compEnvC scope cl C X.env) fp) tg g) (ht : ∀ (s : Shared) (H : Hp) (C : Addr) (cl : List (Str × Addr)) (fp : List Addr), PTs (X.blk s H scope (compEnvC scope cl C X.env) fp) ifs tt)
    (he : ∀ (s : Shared) (H : Hp) (C : Addr) (cl : List (Str × Addr)) (fp : List Addr) (f : Value → Shared → Prop) (E0 : XK), (∀ σ', PassesAt (L2.CX X.prog X.w) (blkE X s H scope (compEnvC scope cl C X.env) fp f) σ' E0) → PE (blkE X s H scope (compEnvC scope cl C X.env) fp f) elt (te E0)) (hs : ∀ x, foldedSetIterable iter X.env x = pure x)
    (h : tLc wi g tt (te fun cls d H' => W cls d σ H') (own.map (·.2)) σ H Q)
    (hRR : ∀ D C s' m H', Inv X pins σ H' s' → Q (.ref D) H' → s'.heap.Ns C m → FpOk X pins H' C → compPost (model X.prog X.w) X.A X.xe use Qf (.ref D) C (.ok .next) s') :
    wpAny (model X.prog X.w) X.A (comprehension (.ListComp elt [⟨tg, iter, ifs, 0⟩] scope pos) scope X.env pos' (newList []) false (eval iter X.env) use) Qf X.xe s := by
  have hfree : ∀ y ∈ scope.names, y.2 = .free → ∃ c, X.env.cells.lookup y.1 = some c := fun y hy e => by
    rcases ok.free y hy e with k | k
    · exact I.ok.has _ (.inl k)
    · exact I.ok.has _ (.inr k)
  refine comp_freeE (use := use) rfl hs (closure_ok hfree) ok.kind (fun y hy e => by rw [ok.uniq y hy, e])
    (thn (hi.run pins s σ H _ I h) fun xv s1 hx => thn hx fun itv s2 h2 => ?_)
  obtain ⟨it, fp, tn, J, H2, e, I2, T, st2, f2, q⟩ := h2
  subst e
  refine wpAny_newObj_type (newEnv_comp ?_) (by show 0 ≤ sizeLine; decide)
  generalize hD : s2.heap.objs.size = D
  have hDn : H2 D = none := I2.hok.fresh (Nat.le_of_eq hD)
  obtain ⟨Wt, ⟨m0, w0⟩, turn⟩ := q D hDn
  generalize hs3 : ({ s2 with heap := s2.heap.push { cls := .type "list", data := .seq ([] : List Value).toArray } } : Shared) = s3
  have I3 : Inv X pins σ (upd H2 D (.lst [])) s3 := by
    rw [← hs3]
    refine I2.laid (t' := s2.toks) (fun b o e => Heap.get?_push_of_some _ e) (Nat.le_of_eq hD) ⟨Nat.zero_le _, [], 0, .nil, ?_⟩
    rw [← hD]
    exact Heap.get?_push_size _ rfl
  have h3 : s3.heap = s2.heap.push { cls := .type "list", data := .seq ([] : List Value).toArray } := by rw [← hs3]
  have sz : ∀ b ∈ fp, b < s2.heap.objs.size := fun b hb => by
    obtain ⟨o, e, _⟩ := T.obj _ _ st2 b hb
    exact Heap.lt_size e
  have f3 : ∀ b ∈ fp, FpOk X pins (upd H2 D (.lst [])) b ∧ b < s3.heap.objs.size := fun b hb => by
    have hlt := sz b hb
    refine ⟨⟨?_, (f2 b hb).2⟩, by rw [h3, Heap.size_push]; exact Nat.lt_succ_of_lt hlt⟩
    rw [upd_ne (by rw [← hD]; exact Nat.ne_of_lt hlt)]
    exact (f2 b hb).1
  have st3 : tn 0 s3.heap := T.keep _ _ _ st2 fun b _ o e => by rw [h3]; exact Heap.get?_push_of_some _ e
  have I4 := block_start I3 ok hN f3
  have pg := hg s3 (upd H2 D (.lst [])) s3.heap.objs.size (cellsFrom (s3.heap.objs.size + 1) scope.names (cloFrom X.env.cells scope.names [])) fp
  have pt := ht s3 (upd H2 D (.lst [])) s3.heap.objs.size (cellsFrom (s3.heap.objs.size + 1) scope.names (cloFrom X.env.cells scope.names [])) fp
  have pe := he s3 (upd H2 D (.lst [])) s3.heap.objs.size (cellsFrom (s3.heap.objs.size + 1) scope.names (cloFrom X.env.cells scope.names [])) fp
  show codeAny _ _ (.compStart (.ListComp elt [⟨tg, iter, ifs, 0⟩] scope pos) 0 (.ref it) (.ref D) (compEnvC scope (cellsFrom (s3.heap.objs.size + 1) scope.names (cloFrom X.env.cells scope.names [])) s3.heap.objs.size X.env)) (postE (model X.prog X.w) X.A X.xe use Qf (.ref D) (compEnvC scope (cellsFrom (s3.heap.objs.size + 1) scope.names (cloFrom X.env.cells scope.names [])) s3.heap.objs.size X.env)) { s3 with heap := pushCells (s3.heap.push { cls := .type "dict", data := .dict #[] }) scope.names }
  have nfp : ∀ b ∈ fp, (upd H2 D (.lst [])) b = none := fun b hb => (f3 b hb).1.1
  generalize hce : compEnvC scope (cellsFrom (s3.heap.objs.size + 1) scope.names (cloFrom X.env.cells scope.names [])) s3.heap.objs.size X.env = ce at I4 pg pt pe ⊢
  have cL : ce.locals = s3.heap.objs.size := by subst hce; rfl
  have cF : ce.frame = X.env.frame := by subst hce; rfl
  generalize hH3 : upd H2 D (.lst []) = H3 at I3 I4 pg pt pe w0 nfp f3
  generalize hs4 : ({ s3 with heap := pushCells (s3.heap.push { cls := .type "dict", data := .dict #[] }) scope.names } : Shared) = s4 at I4 ⊢
  have st4 : tn 0 s4.heap := T.keep _ _ _ st3 fun b _ o e => by rw [← hs4]; exact pushCells_keeps _ _ _ _ (Heap.get?_push_of_some _ e)
  have stat : ∀ {σ' : L2.St} {H' : Hp} {s' : Shared}, Inv (X.blk s3 H3 scope ce fp) [] σ' H' s' → (∀ b ∈ fp, H' b = none) → ∀ b ∈ fp, FpOk (X.blk s3 H3 scope ce fp) [] H' b := fun {σ' H' s'} I' hn b hb =>
    ⟨hn b hb, (I'.ok.exf b hb).1, I'.ok.exfs b hb, .inl hb, fun x c e => (I'.ok.exf b hb).2 x c e, fun p hp => absurd (show p ∈ ([] : List (Addr × Obj)) ++ [] from hp) (by simp)⟩
  -- back in the def's context
  have back : ∀ {pins' : List (Addr × Obj)} {σ' : L2.St} {H' : Hp} {s' : Shared}, Inv (X.blk s3 H3 scope ce fp) pins' σ' H' s' → Inv X pins σ H' s' ∧ (∃ m, s'.heap.Ns s3.heap.objs.size m) ∧ FpOk X pins H' s3.heap.objs.size := fun {pins' σ' H' s'} I6 => by
    have nC : H' s3.heap.objs.size = none := by
      have z : H' ce.locals = none := I6.free
      rw [cL] at z
      exact z
    obtain ⟨m, hn, _⟩ := I6.loc
    have hn : s'.heap.Ns ce.locals m := hn
    rw [cL] at hn
    exact ⟨I3.call' (ch := fp) I6.os I6.base I6.hok I6.bare fun b hb => ⟨(f3 b hb).1.2.2.2.1, (f3 b hb).1.2.1, (f3 b hb).1.2.2.2.2.1, (f3 b hb).1.2.2.2.2.2⟩, ⟨m, hn⟩, I3.fpOk (Nat.le_refl _) nC⟩
  have px : ∀ σ', PassesAt (L2.CX X.prog X.w) (blkE X s3 H3 scope ce fp (notedBy (model X.prog X.w) X.A ce fun e s' => postE (model X.prog X.w) X.A X.xe use Qf (.ref D) ce (.error e) s')) σ' (fun cls d H' => W cls d σ H') := fun σ' pins' H' s' e s'' I' c => by
    obtain ⟨J1, hm, fC⟩ := back (inv_xe (f := fun _ _ => False) I')
    have z := xe_block hst hfr tk J1 fC hm (E0 := fun cls d H' => W cls d σ H') (fun _ _ _ h => h) c cF
    rw [← cL] at z
    exact z
  have pe := pe _ _ px
  have loop : codeAny (model X.prog X.w) X.A (.compLoop (.ListComp elt [⟨tg, iter, ifs, 0⟩] scope pos) 0 (.ref it) (.ref D) ce) (postE (model X.prog X.w) X.A X.xe use Qf (.ref D) ce) s4 := by
    refine compLoop_any (fun n s' => ∃ i H', Inv (X.blk s3 H3 scope ce fp) [] (wipe σ (own.map (·.2))) H' s' ∧ tn i s'.heap ∧ (∀ b ∈ fp, H' b = none) ∧ Wt i n H') ?_ m0 ⟨0, H3, I4, st4, nfp, w0⟩
    rintro n s5 ⟨i, H5, I5, st5, n5, w5⟩
    rcases turn i n H5 w5 with ⟨stop, qq⟩ | ⟨go, Nx, hNx, step⟩
    · have td := T.done (X.blk s3 H3 scope ce fp) rfl rfl rfl hc i [] s5 _ H5 (fun _ _ => False) I5 (stat I5 n5) st5 stop
      refine thnF td fun r s6 ⟨hr, I6⟩ => ?_
      subst hr
      obtain ⟨I7, ⟨m, hn⟩, fC⟩ := back I6
      show compPost _ _ _ _ _ _ ce.locals _ _
      rw [cL]
      exact hRR D s3.heap.objs.size s6 m H5 I7 qq hn fC
    · have ti := T.item (X.blk s3 H3 scope ce fp) rfl rfl rfl hc i [] s5 _ H5 (fun _ _ => False) I5 (stat I5 n5) st5 go
      refine thnF ti fun r s6 ⟨u, hr, h6⟩ => ?_
      subst hr
      refine thnF h6 fun _ s7 ⟨x, H7, I7, r7, y7, st7, n7⟩ => ?_
      have I7' := I7.pinned (stat I7 n7) (T.obj _ _ st7)
      refine thnF (pg.run _ s7 _ H7 x u _ I7' r7 (step x H7 y7)) fun _ s8 ⟨σ8, H8, I8, hw8, q8⟩ => ?_
      refine thnF (pt.run _ s8 σ8 H8 _ I8 q8) fun b s9 ⟨H9, I9, q9⟩ => ?_
      have fin : ∀ {s' : Shared} {H' : Hp}, Inv (X.blk s3 H3 scope ce fp) ([] ++ pinsAt fp s7.heap) σ8 H' s' → Nx H' → ∃ m, m < n ∧ ∃ i H', Inv (X.blk s3 H3 scope ce fp) [] (wipe σ (own.map (·.2))) H' s' ∧ tn i s'.heap ∧ (∀ b ∈ fp, H' b = none) ∧ Wt i m H' := fun {s' H'} I' nx => by
        obtain ⟨m', hm, w'⟩ := hNx H' nx
        have pin' : ∀ b ∈ fp, ∀ o, s7.heap.get? b = some o → s'.heap.get? b = some o ∧ H' b = none := fun b hb o e =>
          let z := I'.pin (b, o) (List.mem_append_right _ (List.mem_append_right _ (mem_pinsAt hb e)))
          ⟨z.1, z.2.1⟩
        have hl : (wipe σ (own.map (·.2))).length = σ8.length := by rw [← hw8, wipe_length]
        refine ⟨m', hm, i + 1, H', (I'.unpinned (pins := [])).weak hl (fun j v e => ?_), T.keep _ _ _ st7 fun b hb o e => (pin' b hb o e).1, fun b hb => ?_, w'⟩
        · rw [← hw8] at e
          exact (wipe_some e).1
        · obtain ⟨o, e, _⟩ := T.obj _ _ st7 b hb
          exact (pin' b hb o e).2
      cases b with
      | false =>
        simp only [Bool.false_eq_true, if_false] at q9 ⊢
        exact fin I9 q9
      | true =>
        simp only [if_true] at q9 ⊢
        refine thn (pe.run _ s9 σ8 H9 _ (inv_xe I9) q9) fun z s10 ⟨yv, H10, I10, r10, acc, hD10, hz10, nx⟩ => ?_
        exact app_ok (X := X.blk s3 H3 scope ce fp) (inv_xe I10) hD10 hz10 r10 fun s11 I11 => fin I11 nx
  exact codeAny_compStart_list loop (T.self X.A 0 _ _ _ st4 loop)
end
end VL
namespace VL
open PySem PySem.Spec PyProof.Rows L2
section
variable {X : Cx}
def tLcE (W : WX) (wi : TI) (g : TG) (tt : TT) (te : XK → TE) (vs : List Nat) : TE := fun σ H Q => tLc wi g tt (te fun cls d H' => W cls d σ H') vs σ H Q
theorem pe_lcE {W : WX} (hst : X.stack = X.env :: X.outer) (hfr : X.env.frame = some X.env.locals) (tk : Takes X W) {elt tg iter : Expr} {ifs : List Expr} {scope : Scope} {own : List (Str × Nat)} {pos : Pos} {wi : TI} {g : TG} {tt : TT} {te : XK → TE} (hc : X.calm = true) (hN : X.N.Nodup) (hi : PI X tg iter wi) (ok : BlkOk X.N X.env.scope scope own)
    (hg : ∀ (s : Shared) (H : Hp) (C : Addr) (cl : List (Str × Addr)) (fp : List Addr), PG (X.blk s H scope (compEnvC scope cl C X.env) fp) tg g) (ht : ∀ (s : Shared) (H : Hp) (C : Addr) (cl : List (Str × Addr)) (fp : List Addr), PTs (X.blk s H scope (compEnvC scope cl C X.env) fp) ifs tt)
    (he : ∀ (s : Shared) (H : Hp) (C : Addr) (cl : List (Str × Addr)) (fp : List Addr) (f : Value → Shared → Prop) (E0 : XK), (∀ σ', PassesAt (L2.CX X.prog X.w) (blkE X s H scope (compEnvC scope cl C X.env) fp f) σ' E0) → PE (blkE X s H scope (compEnvC scope cl C X.env) fp f) elt (te E0)) (hs : ∀ x, foldedSetIterable iter X.env x = pure x := by intro _; rfl) :
    PE X (.ListComp elt [⟨tg, iter, ifs, 0⟩] scope pos) (tLcE W wi g tt te (own.map (·.2))) := by
  refine ⟨fun pins s σ H Q I h => ?_⟩
  rw [eval_ListComp]
  refine lc_coreE hst hfr tk hc hN I hi ok hg ht he hs h fun D C s' m H' I' q hn f => ⟨m, hn, fun h'' sb => ?_⟩
  obtain ⟨f0, f1, f2, f3, f4, f5⟩ := f
  exact ⟨.ref D, H', I'.turned (t' := s'.toks) (fun b o hb e => (sb.2 b hb).trans e) f0 f1 f3 f4 f5, rfl, q⟩
end
/-! ### over values -/
@[simp] def lcGoE (g : VTg) (tt : VB) (te : VT) (Q : D → Prop) (E : Er → Prop) : List D → List PyData → VEnv → Prop
  | [], acc, _ => Q (.py (.list acc))
  | d :: ds, acc, ρ => g d ρ fun ρ1 => tt ρ1 (fun k => if k = true then te ρ1 (fun y => ∃ p, y = .py p ∧ acc.length < sizeLine ∧ lcGoE g tt te Q E ds (acc ++ [p]) ρ) E else lcGoE g tt te Q E ds acc ρ) noE
@[simp] def vLcE (vs : List Nat) (ti : VIt) (g : VTg) (tt : VB) (te : VT) : VT := fun ρ Q E => noOwn ρ vs ∧ ti ρ (fun ds => lcGoE g tt te Q E ds [] (wipeE ρ vs)) E
section
variable {b : Bg} {W : WX} {ti : VIt} {js : List Nat} {g : VTg} {tt : VB} {te : VT} {vs : List Nat}
theorem lc_soundE (hjs : ∀ j ∈ js, j ∈ vs) : ∀ σ H Q, LE b W (RN b) (vLcE vs ti g tt te) σ H Q → tLcE W (LI b W (fun _ => b.B) ti) (LG b js g) (LB b noW tt) (fun E0 => LE b (fun c d _ H => E0 c d H) (RE b) te) vs σ H Q :=
  fun σ H Q ⟨Zo, Z, ρ, Qd, Ed, v, ⟨hno, q⟩, l, m⟩ => ⟨Zo, Z, ρ, _, _, v, q, fun J H1 ds x1 g1 wk q1 => by
    intro A hA
    have v1 := v.ex x1 g1
    have nzA : ¬ Z A := v1.fresh hA
    have nbA : ¬ b.B A := v1.nb nzA
    have hA0 : H A = none := none_back g1 x1 A hA
    have v2 := (v1.apart hA (o := .lst [])).wiped hno
    -- the invariant
    let Iv : Nat → Hp → Prop := fun i H' => ∃ xs acc, H' A = some (.lst xs) ∧ Rqs (fun c => Z c ∨ c = A) H' xs acc ∧ VOk b (fun c => Zo c ∨ c = A) (fun c => Z c ∨ c = A) (wipe σ vs) H' (wipeE ρ vs) ∧ (∀ a o, H1 a = some o → ¬ b.B a → H' a = some o) ∧ lcGoE g tt te Qd Ed (ds.drop i) acc (wipeE ρ vs)
    refine ⟨fun i m H' => m = ds.length - i ∧ i ≤ ds.length ∧ Iv i H', ⟨ds.length, by simp, Nat.zero_le _, [], [], upd_same, .nil, v2, fun a o e _ => by rw [upd_ne (ne_of_none e hA)]; exact e, q1⟩, ?_⟩
    rintro i m H' ⟨rfl, hi, xs, acc, hx, rx, v', st, q'⟩
    by_cases hlt : i < ds.length
    · rw [List.drop_eq_getElem_cons hlt] at q'
      obtain ⟨go, yl⟩ := wk.go i ds[i] H' (List.getElem?_eq_getElem hlt) st v'.g
      refine .inr ⟨go, Iv (i + 1), fun H2 h2 => ⟨ds.length - (i + 1), by omega, rfl, hlt, h2⟩, fun w H3 y => ?_⟩
      obtain ⟨x3, g3, r3⟩ := yl w H3 y
      have v3 := v'.ex x3 g3
      refine ⟨H3, fun _ => True, _, _, _, ds[i], _, ⟨v3, fun _ _ e _ _ => e, fun _ _ _ _ _ => .inl trivial⟩, r3 _ (fun a z => z.imp id fun e => by rw [e]; exact hA) v'.dom, q', fun Z4 σ4 ρ4 sub sm f4 q4 => ?_⟩
      have ww : wipe (wipe σ vs) vs = wipe σ vs := wipe_same (js := vs) (σ := σ) (ρ := ρ) (ρ' := ρ) ⟨by rw [wipe_length], fun j hj => wipe_out hj, fun _ _ => rfl⟩ fun j h => h
      refine ⟨(wipe_same sm hjs).trans ww, ?_⟩
      have st3 : ∀ a o, H1 a = some o → ¬ b.B a → H3 a = some o := fun a o e n => x3 a o (st a o e n) n
      have hx3 : H3 A = some (.lst xs) := x3 A _ hx nbA
      refine ⟨_, _, _, _, _, f4.v, q4, fun k H5 x5 g5 q5 => ?_, fun c z H5 er _ _ _ h => h.elim⟩
      have st5 : ∀ a o, H1 a = some o → ¬ b.B a → H5 a = some o := fun a o e n => x5 a o (st3 a o e n) n
      have hx5 : H5 A = some (.lst xs) := x5 A _ hx3 nbA
      have v5 := v3.ex x5 g5
      have rx5 : Rqs (fun c => Z c ∨ c = A) H5 xs acc := v3.rqs x5 (v'.rqs x3 rx)
      cases k with
      | false => exact ⟨xs, acc, hx5, rx5, v5, st5, q5⟩
      | true =>
        have zz : ∀ c, (Z c ∨ c = A) → Z4 c := fun c z => by
          rcases v'.zi c z with z' | ⟨j, dj, h1, h2⟩
          · exact f4.v.zo c z'
          · rcases wipeE_in h1 with ⟨h1, _⟩ | ⟨h1, hj⟩
            · cases h1
            · have hj' : j ∉ js := fun m => hj (hjs j m)
              have e4 := sm.env j hj'
              rw [wipeE_out h1 hj] at e4
              obtain ⟨c', h3, h4, _⟩ := f4.v.own j dj e4
              rw [sm.out j hj', h2] at h3
              cases h3
              exact h4
        refine ⟨_, _, _, _, _, f4.v.ex x5 g5, q5, fun u H6 d6 x6 g6 r6 ⟨p, ep, hz, q6⟩ => ?_, fun c z H6 er x6 g6 ⟨r6, r7⟩ h => ?_⟩
        rotate_left
        · refine m c z H6 er (fun a o e n => x6 a o (st5 a o (x1 a o e n) n) n) g6 ⟨r6, r7.imp id ?_⟩ h
          rintro ⟨da, xs', e1, e2, e3, e4⟩
          exact ⟨da, xs', e1, e2, fun z => e3 (zz da (.inl z)), e4.mono (fun c z => .inl (zz c (.inl z))) fun _ _ e _ => e⟩
        subst ep
        have hx6 : H6 A = some (.lst xs) := x6 A _ hx5 nbA
        have rx6 := v5.rqs x6 rx5
        have v6 := v5.ex x6 g6
        have zo4 : ∀ c, (Zo c ∨ c = A) → Z4 c := f4.v.zo
        have r7 : Rq (fun c => Z c ∨ c = A) H6 u p := by
          refine Rq.mono (fun c z => ?_) (fun _ _ e _ => e) r6
          -- what the block's names own is what the def owns
          rcases v'.zi c z with z' | ⟨j, dj, h1, h2⟩
          · exact .inl (zo4 c z')
          · rcases wipeE_in h1 with ⟨h1, _⟩ | ⟨h1, hj⟩
            · cases h1
            · have hj' : j ∉ js := fun m => hj (hjs j m)
              have e4 := sm.env j hj'
              rw [wipeE_out h1 hj] at e4
              obtain ⟨c', h3, h4, _⟩ := f4.v.own j dj e4
              rw [sm.out j hj', h2] at h3
              cases h3
              exact .inl h4
        refine ⟨xs, hx6, by rw [rx6.length]; exact hz, xs ++ [u], acc ++ [p], upd_same, ?_, v6.outer (.inr rfl) nbA (fun o ho z => by rw [hx6] at z; cases z; exact ho), fun a o e n => ?_, q6⟩
        · have mv : ∀ c o, H6 c = some o → ¬ (Z c ∨ c = A) → upd H6 A (.lst (xs ++ [u])) c = some o := fun c o e n => by rw [upd_ne (fun q => n (.inr q))]; exact e
          exact (rx6.mono (fun _ z => .inl z) mv).append (.cons (Rq.mono (fun _ z => .inl z) mv r7) .nil)
        · rw [upd_ne (ne_of_none e hA)]
          exact x6 a o (st5 a o e n) n
    · have e : ds.length = i := by omega
      rw [List.drop_eq_nil_of_le (by omega)] at q'
      refine .inl ⟨wk.stop i H' e st, ?_⟩
      have xx : Ex b H H' := fun a o e n => st a o (x1 a o e n) n
      exact l _ H' (.py (.list acc)) xx v'.g ⟨A, rfl, hA0, xs, hx, rx⟩ q', m⟩
end
section
variable {X : Cx} {b : Bg} {W : WX} {tg iter elt c : Expr} {ifs : List Expr} {scope : Scope} {own : List (Str × Nat)} {pos spos py p : Pos} {ti : VIt} {js : List Nat} {g : VTg} {tt : VB} {te : VT} {i : Nat} {y : Str}
theorem ve_calP {k j : Nat} {x : Str} {ps : List Str} {S : SV} {e : Expr} {es : List Expr} {u : VA} (c : Cal X.prog X.w X.K X.mg X.base b k x ps S) (hr : Room j X.A) (hx : ∀ σ, PassesAt (L2.CX X.prog X.w) X σ (WE W σ)) (hg : Gl X x) (ha : VAs X b W (e :: es) u) (hk : k ≤ j := by decide) (hdb : (x == ("__debug__" : Str)) = false := by decide)
    (he : starEach (e :: es) X.env = (false, eval e X.env) :: starEach es X.env := by rfl) (hpl : (backTo pos (starEach es X.env)).any (·.1) = false := by rfl) : VE X b W (.Call (.Name x p) (e :: es) [] pos) (vCall S u) :=
  pe_mono (pe_callS c.F (hr.mono hk) hg c.g c.kp c.bd hx ha hdb he hpl) (call_core rfl rfl)
theorem vn_lcE (hst : X.stack = X.env :: X.outer) (hfr : X.env.frame = some X.env.locals) (tk : Takes X W) (hc : X.calm = true) (hN : X.N.Nodup) (hi : VIb X b W tg iter ti) (ok : BlkOk X.N X.env.scope scope own) (hjs : ∀ j ∈ js, j ∈ own.map (·.2))
    (hg : ∀ (s : Shared) (H : Hp) (C : Addr) (cl : List (Str × Addr)) (fp : List Addr), VG (X.blk s H scope (compEnvC scope cl C X.env) fp) b tg js g) (ht : ∀ (s : Shared) (H : Hp) (C : Addr) (cl : List (Str × Addr)) (fp : List Addr), VTs (X.blk s H scope (compEnvC scope cl C X.env) fp) b ifs tt)
    (he : ∀ (s : Shared) (H : Hp) (C : Addr) (cl : List (Str × Addr)) (fp : List Addr) (f : Value → Shared → Prop) (W' : WX), (∀ σ', PassesAt (L2.CX X.prog X.w) (blkE X s H scope (compEnvC scope cl C X.env) fp f) σ' (WE W' σ')) → VE (blkE X s H scope (compEnvC scope cl C X.env) fp f) b W' elt te) (hs : ∀ x, foldedSetIterable iter X.env x = pure x := by intro _; rfl) :
    VN X b W (.ListComp elt [⟨tg, iter, ifs, 0⟩] scope pos) (vLcE (own.map (·.2)) ti g tt te) :=
  pe_mono (pe_lcE (te := fun E0 => LE b (fun c d _ H => E0 c d H) (RE b) te) hst hfr tk hc hN hi ok hg ht (fun s H C cl fp f E0 hx => he s H C cl fp f (fun c d _ H => E0 c d H) hx) hs) (lc_soundE hjs)
end
end VL
set_option Elab.async false
set_option linter.all false
set_option maxRecDepth 100000
set_option maxHeartbeats 4000000
/-! VL72: own objects: fields, __init__, methods -/
namespace VL
open PySem PySem.Spec PyProof.Rows L2
/-! ### fields -/
@[simp] def gFld (n f : Str) : D → (D → Prop) → Prop
  | .obj _ m fs, Q => m = n ∧ ∃ p, fs.lookup f = some p ∧ Q (.py p)
  | _, _ => False
/-- the field f is p from now on -/
@[simp] def putFD (f : Str) (p : PyData) : List (Str × PyData) → List (Str × PyData)
  | [] => [(f, p)]
  | (g, x) :: r => if g = f then (g, p) :: r else (g, x) :: putFD f p r
theorem Rqf.put {Z : Addr → Prop} {H : Hp} {f : Str} {v : V} {p : PyData} (r : Rq Z H v p) : ∀ {xs : List (Str × V)} {fs : List (Str × PyData)}, Rqf Z H xs fs → Rqf Z H (putF f v xs) (putFD f p fs)
  | _, _, .nil => .cons r .nil
  | _, _, .cons (k := k) q t => by
    unfold putF putFD
    by_cases e : k = f
    · rw [if_pos e, if_pos e]; exact .cons r t
    · rw [if_neg e, if_neg e]; exact .cons q (Rqf.put r t)
theorem Rqf.len {Z : Addr → Prop} {H : Hp} : ∀ {xs : List (Str × V)} {fs : List (Str × PyData)}, Rqf Z H xs fs → xs.length = fs.length
  | _, _, .nil => rfl
  | _, _, .cons _ t => congrArg (· + 1) (Rqf.len t)
theorem Rqf.none {Z : Addr → Prop} {H : Hp} {f : Str} : ∀ {xs : List (Str × V)} {fs : List (Str × PyData)}, Rqf Z H xs fs → fs.lookup f = none → xs.lookup f = none
  | _, _, .nil, _ => rfl
  | _, _, .cons (k := k) r t, e => by
    rw [List.lookup_cons] at e ⊢
    cases h : f == k with
    | true => rw [h] at e; cases e
    | false => rw [h] at e; exact Rqf.none t e
section
variable {X : Cx} {b : Bg} {W : WX} {e o : Expr} {n f : Str} {t : VT} {pos pos' : Pos} {i : Nat}
theorem ve_fld (c : Cls X.K (b.cls n)) (na : NoAttr X.K (b.cls n) f) (h : VX X b W e t) (hb : attributeBase e f X.env (eval e X.env) = eval e X.env := by rfl) : VE X b W (.Attribute e f pos) (vUn (gFld n f) t) :=
  pe_mono (pe_fld h hb) fun σ H Q ⟨Zo, Z, ρ, Qd, Ed, v, q, l, m⟩ => ⟨Zo, Z, ρ, _, Ed, v, q, fun x H1 d x1 g1 r1 q1 => by
    match d, q1, r1 with
    | .obj a _ fs, ⟨rfl, p, hp, q1⟩, r1 =>
      rcases r1 with ⟨dx, xs, rfl, hH, _, rq⟩ | ⟨a', rfl, _, _, rfl, dx, xs, hH, rq⟩
      · obtain ⟨u, hu, ru⟩ := rq.look hp
        exact ⟨a, _, dx, xs, u, rfl, hH, c, na, hu, l u H1 (.py p) x1 g1 ru q1⟩
      · obtain ⟨u, hu, ru⟩ := rq.look hp
        exact ⟨_, _, dx, xs, u, rfl, hH, c, na, hu, l u H1 (.py p) x1 g1 ru q1⟩, m⟩
@[simp] def sFldS (i : Nat) (n f : Str) (t : VT) : VS := fun ρ De => t ρ (fun d => ∃ p a fs, d = .py p ∧ ρ[i]? = some (.own (.obj a n fs)) ∧ fs.length < 1000 ∧ De.nx (ρ.set i (.own (.obj a n (putFD f p fs))))) (De.ex ρ)
theorem vs_fld (c : Cls X.K (b.cls n)) (na : NoAttr X.K (b.cls n) f) (ho : PE X o (tVar i)) (he : VE X b W e t) (hs : swapsWith e (some (.Attribute o f pos')) pos.line X.env = pure false := by rfl) : VSt X b W (.Assign [.Attribute o f pos'] e pos) (sFldS i n f t) :=
  ps_mono (ps_fld ho he hs) fun D σ H ⟨H0, M, Zo, Z, ρ, De, fo, q, l⟩ => ⟨Zo, Z, ρ, _, _, fo.v, q, fun v H' d x g r ⟨p, a, fs, ed, er, hl, q2⟩ => by
    subst ed
    have f1 := fo.ex x g
    obtain ⟨a', h1, h2, h3, ea, dx, xs, h4, h5⟩ := f1.v.own i _ er
    subst ea
    refine ⟨.ref a', h1, a', b.cls n, dx, xs, rfl, h4, c, na, by rw [h5.len]; exact hl, l.nx _ _ _ _ (f1.mut (d' := .obj a' n (putFD f p fs)) er h1 ⟨rfl, dx, putF f v xs, upd_same, ?_⟩) q2⟩
    have up_ : ∀ b2 u, H' b2 = some u → ¬ Z b2 → upd H' a' (.ins (b.cls n) dx (putF f v xs)) b2 = some u := fun b2 u ee nz => by
      rw [upd_ne (fun w => nz (by rw [w]; exact h2))]
      exact ee
    exact Rqf.put (Rq.mono (fun _ z => .inl z) up_ r) (h5.mono (fun _ z => .inl z) up_), l.er fo⟩
end
/-! ### what an __init__ promises -/
abbrev SI := List D → (List (Str × PyData) → Prop) → (Er → Prop) → Prop
def spI (b : Bg) (n : Str) (S : SI) : Sp := fun vs H Q E => ∃ (x dx : Addr) (vs' : List V) (Z : Addr → Prop) (ds : List D) (Qd : List (Str × PyData) → Prop) (Ed : Er → Prop), vs = .ref x :: vs' ∧ H x = some (.ins (b.cls n) dx []) ∧ Gd b Z H ∧ ¬ Z x ∧ Rps b (fun c => Z c ∨ c = x) H vs' ds ∧ S ds Qd Ed ∧
  (∀ H' fs, (∀ a o, H a = some o → ¬ b.B a → a ≠ x → H' a = some o) → b.G H' → Ow b (fun c => Z c ∨ c = x) H' x (.obj x n fs) → Qd fs → Q .non H') ∧
  ∀ c d H' er, (∀ a o, H a = some o → ¬ b.B a → a ≠ x → H' a = some o) → b.G H' → ErRp b Z H' c d er → Ed er → E c d H'
@[simp] def envI (x : Addr) (n : Str) (N : Nat) (ds : List D) : VEnv := .own (.obj x n []) :: envOf (N - 1) ds
@[simp] def finI (x : Addr) (n : Str) (Q : List (Str × PyData) → Prop) (E : Er → Prop) : VEnds := { nx := fun ρ => ∃ fs, ρ[0]? = some (.own (.obj x n fs)) ∧ Q fs, rt := fun _ => False, bk := fun _ => False, ct := fun _ => False, ex := fun _ => E }
theorem VOk.entryI {b : Bg} {Z : Addr → Prop} {H : Hp} {N : List Str} {vs : List V} {ds : List D} {x dx : Addr} {n : Str} (g : Gd b Z H) (nz : ¬ Z x) (hx : H x = some (.ins (b.cls n) dx [])) (r : Rps b (fun c => Z c ∨ c = x) H vs ds) (hl : vs.length + 1 ≤ N.length) :
    VOk b Z (fun c => Z c ∨ c = x) (L2.start N (.ref x :: vs)) H (envI x n N.length ds) where
  g := g.g
  zb := g.zb
  zo := fun _ z => .inl z
  dom := fun a z => z.elim (g.dom a) fun e => by rw [e, hx]; simp
  zi := fun a z => z.imp id fun e => ⟨0, .obj x n [], rfl, by rw [e]; rfl⟩
  own := fun i d e => by
    cases i with
    | zero =>
      simp only [envI, List.getElem?_cons_zero, Option.some.injEq, Slot.own.injEq] at e
      subst e
      exact ⟨x, rfl, .inr rfl, nz, rfl, dx, [], hx, .nil⟩
    | succ i =>
      rw [envI, List.getElem?_cons_succ] at e
      rcases envOf_at e with h | ⟨d', h, _⟩ <;> cases h
  inj := fun i j d e a h1 h2 _ _ => by
    have z : ∀ (i : Nat) (d : D), (envI x n N.length ds)[i]? = some (.own d) → i = 0 := fun i d e => by
      cases i with
      | zero => rfl
      | succ i =>
        rw [envI, List.getElem?_cons_succ] at e
        rcases envOf_at e with h | ⟨d', h, _⟩ <;> cases h
    rw [z i d h1, z j e h2]
  shr := fun i d e => by
    cases i with
    | zero =>
      simp only [envI, List.getElem?_cons_zero, Option.some.injEq] at e
      cases e
    | succ i =>
      rw [envI, List.getElem?_cons_succ] at e
      rcases envOf_at e with h | ⟨d', h, hd⟩
      · cases h
      · cases h
        obtain ⟨v, hv, rv⟩ := r.at hd
        refine ⟨v, ?_, rv⟩
        unfold L2.start
        rw [List.map_cons, List.cons_append, List.getElem?_cons_succ]
        have hi : i < vs.length := (List.getElem?_eq_some_iff.mp hv).1
        rw [List.getElem?_append_left (by simpa using hi), List.getElem?_map, hv]
        rfl
  len := by
    unfold envI envOf L2.start
    simp only [List.length_cons, List.length_append, List.length_map, List.length_replicate, ← r.length]
    omega
section
variable {P : Program} {w : World} {K : PySem.W.Frag} {mg : Str → Option Value} {base : Heap} {b : Bg} {k : Nat} {x qual n : Str} {st : Stmt} {f : Addr} {fd : FuncData} {N ps : List Str} {S : SI}
theorem fin_linkI {t : VS} {H : Hp} {vs : List V} {Q : VK} {E : XK} (hlaw : ∀ x ds Q E, S ds Q E → t (envI x n N.length ds) (finI x n Q E)) (hl : vs.length ≤ N.length) (h : spI b n S vs H Q E) :
    LS b (WF E) t { nx := fun _ H' => Q .non H', rt := Q } (L2.start N vs) H := by
  obtain ⟨x, dx, vs', Z, ds, Qd, Ed, rfl, hx, g, nz, r, s, l, m⟩ := h
  have vo := VOk.entryI g nz hx r (N := N) (by simpa using hl)
  refine ⟨H, fun c => c = x, Z, _, envI x n N.length ds, finI x n Qd Ed, ⟨vo, fun _ _ e _ _ => e, fun i d a e h2 => ?_⟩, hlaw x ds Qd Ed s, ⟨fun Z' σ' H' ρ' f' ⟨fs, e, q⟩ => ?_, fun _ _ _ _ _ _ q => q.elim, fun _ _ _ _ _ q => q.elim, fun _ _ _ _ _ q => q.elim, fun c y Z' σ' H' ρ' er f' r' q => m c y H' er f'.ext f'.v.g ?_ q⟩⟩
  · left
    cases i with
    | zero =>
      have : some (some (V.ref x)) = some (some (V.ref a)) := h2
      simpa using this.symm
    | succ i =>
      rw [envI, List.getElem?_cons_succ] at e
      rcases envOf_at e with h | ⟨d', h, _⟩ <;> cases h
  · obtain ⟨a, h1, h2, h3, h4⟩ := f'.v.own 0 _ e
    obtain ⟨ea, dx', xs, h5, h6⟩ := id h4
    subst ea
    exact l H' fs f'.ext f'.v.g (h4.mono (fun c z => .inl (z.elim (f'.v.zo c) fun q => by rw [q]; exact h2)) (fun _ _ e _ => e) fun _ e => e) q
  · obtain ⟨h1, h2⟩ := r'
    refine ⟨h1, h2.imp id ?_⟩
    rintro ⟨a, xs, e1, e2, e3, e4⟩
    exact ⟨a, xs, e1, e2, fun z => e3 (f'.v.zo a z), e4.mono (fun c z => .inl (f'.v.zo c z)) fun _ _ e _ => e⟩
/-- an __init__ of the text, by its body -/
theorem fnI (F : Fun K x qual st f fd) (Sc : FnScope N ps (defScope st)) {t : VS} (hlen : ∀ ds Q E, S ds Q E → ds.length + 1 = ps.length) (hps : ps.length ≤ N.length)
    (hbody : ∀ (cdv : Value) (A : Around) (outer : List Env) (s : Shared) (H : Hp) (E : XK), Room k (A.deeper (envOfC qual (defScope st) s.heap.objs.size f cdv)) →
      Takes (cxOf (L2.CX P w) P w K mg base N qual (defScope st) f cdv A outer s H E) (WF E) → VSs (cxOf (L2.CX P w) P w K mg base N qual (defScope st) f cdv A outer s H E) b (WF E) (defBody st) t)
    (hlaw : ∀ x ds Q E, S ds Q E → t (envI x n N.length ds) (finI x n Q E)) : FnOk P w K mg base (L2.CX P w) (k + 1) f fd ps (spI b n S) := by
  have len : ∀ vs H Q E, spI b n S vs H Q E → vs.length = ps.length := fun vs H Q E ⟨x, dx, vs', Z, ds, Qd, Ed, e, _, _, _, r, s, _⟩ => by
    rw [e, List.length_cons, r.length]; exact hlen ds Qd Ed s
  refine F.okX Sc len fun cdv A outer s H vs Q E hr h => ⟨_, hbody cdv A outer s H E hr (takes_of rfl rfl rfl rfl), fin_linkI hlaw (Nat.le_trans (Nat.le_of_eq (len _ _ _ _ h)) hps) h⟩
end
/-! ### n(..) -/
section
variable {X : Cx} {CX : CXT} {k : Nat} {f C : Addr} {fd : FuncData} {ps : List Str} {sp : Sp} {dvs : List V} {ds : List Value} {E : L2.St → XK} {x m : Str} {p pos apos : Pos} {e o : Expr} {es : List Expr} {ta : TE} {t : TA}
def tMakeS (C : Addr) (sp : Sp) (E : L2.St → XK) (t : TA) : TE := fun σ H Q => t σ H fun vs H1 => ∀ x dx, H1 x = none → H1 dx = none → dx ≠ x →
  sp (.ref x :: vs) (upd (upd H1 dx (.own x)) x (.ins C dx [])) (fun v H2 => v = .non ∧ Q (.ref x) H2) (E σ)
theorem run_makeS {pins : List (Addr × Obj)} {σ : L2.St} {H : Hp} {s : Shared} {Q : VK} {us : List Value} {vs : List V} (M : Mk X.K C f) (F : FnOk X.prog X.w X.K X.mg X.base CX k f fd ps sp) (hr : Room (k + 1) X.A) (hb : Binds X.K fd ps [])
    (hx : PassesAt CX X σ (E σ)) (I : Inv X pins σ H s) (r : Vals vs us)
    (h : ∀ x dx, H x = none → H dx = none → dx ≠ x → sp (.ref x :: vs) (upd (upd H dx (.own x)) x (.ins C dx [])) (fun v H2 => v = .non ∧ Q (.ref x) H2) (E σ)) :
    wpAny (model X.prog X.w) X.A (call (.ref C) us) (EP X pins σ Q) X.xe s := by
  have hq := h (s.heap.objs.size + 1) s.heap.objs.size (I.hok.fresh (Nat.le_succ _)) (I.hok.fresh (Nat.le_refl _)) (Nat.ne_of_lt (Nat.lt_succ_self _))
  have I2 := Inv.made (C := C) I
  have r2 : Vals (V.ref (s.heap.objs.size + 1) :: vs) (Value.ref (s.heap.objs.size + 1) :: us) := .cons rfl r
  have hl : ((Value.ref (s.heap.objs.size + 1) :: us) ++ []).length = ps.length := by
    have e := r2.length
    rw [F.len _ _ _ _ hq] at e
    rw [List.append_nil]
    exact e.symm
  have hb' := hb _ (Value.ref (s.heap.objs.size + 1) :: us) I2.kIn hl
  rw [List.append_nil] at hb'
  refine wpAny_call (make_map (f := f) I.kIn M.makes M.init (beq_iff_eq.mp M.fn) (codeAny_mono (F.run _ X.stack _ _ ⟨Value.ref (s.heap.objs.size + 1) :: us, []⟩ (Value.ref (s.heap.objs.size + 1) :: us) _ _ (E σ) (hr.make C us [])
    (I2.env0.make C us []) hb' r2 hq) fun r s' hq' => ?_))
  cases r with
  | error e => exact hx pins _ _ e s' I2 hq'
  | ok fl =>
    cases fl with
    | ret u =>
      obtain ⟨v, H', I3, rv, ev, q3⟩ := I2.after hq'
      subst ev
      exact ⟨rv, ⟨V.ref (s.heap.objs.size + 1), H', I3, rfl, q3⟩⟩
    | next => exact False.elim hq'
    | brk => exact False.elim hq'
    | cont => exact False.elim hq'
theorem pe_makeS (M : Mk X.K C f) (F : FnOk X.prog X.w X.K X.mg X.base CX k f fd ps sp) (hr : Room (k + 1) X.A) (hg : Gl X x) (hm : X.mg x = some (.ref C)) (hb : Binds X.K fd ps []) (hx : ∀ σ, PassesAt CX X σ (E σ))
    (ha : PA X (e :: es) t) (hdb : (x == ("__debug__" : Str)) = false := by decide) (he : starEach (e :: es) X.env = (false, eval e X.env) :: starEach es X.env := by rfl) (hpl : (backTo pos (starEach es X.env)).any (·.1) = false := by rfl) :
    PE X (.Call (.Name x p) (e :: es) [] pos) (tMakeS C sp E t) := by
  refine ⟨fun pins s σ H Q I h => ?_⟩
  refine wpAny_Call_Name_kw (ld_glob I hg hm ?_ hdb)
  refine PySem.W.callWith_K (h₀ := X.base) I.ok.mod.kin M.kp (thn (ha.run pos pins s σ H _ I h) fun us s1 ⟨vs, H1, I1, r, q⟩ => ⟨I1.kIn, ?_⟩) he hpl
  exact run_makeS M F hr hb (hx σ) I1 r q
def tMethS (C : Addr) (m : Str) (sp : Sp) (E : L2.St → XK) (ta : TE) (t : TA) : TE := fun σ H Q => ta σ H fun x H1 => ∃ a dx fs, x = .ref a ∧ H1 a = some (.ins C dx fs) ∧ fs.lookup m = none ∧
  t σ H1 fun vs H2 => sp (x :: vs) H2 Q (E σ)
theorem pe_methS {pl : Sem Bool} (he : PE X o ta) (c : Cls X.K C) (hm : Meth X.K C m f) (F : FnOk X.prog X.w X.K X.mg X.base CX k f fd ps sp) (hr : Room k X.A) (hb : Binds X.K fd ps []) (hx : ∀ σ, PassesAt CX X σ (E σ)) (ha : PA X (e :: es) t)
    (hst : starEach (e :: es) X.env = (false, eval e X.env) :: starEach es X.env := by rfl) (hpl : (backTo pos (starEach es X.env)).any (·.1) = false := by rfl)
    (ht : eval (.Call (.Attribute o m apos) (e :: es) [] pos) X.env = (do
      let ov ← eval o X.env
      standAt apos.atName
      let (f, first) ← holding [ov] (getMethod ov m pl)
      callWith pos f first (backTo pos (starEach (e :: es) X.env)) (backToKw pos (keywordEach [] X.env))) := by rfl) :
    PE X (.Call (.Attribute o m apos) (e :: es) [] pos) (tMethS C m sp E ta t) := by
  refine ⟨fun pins s σ H Q I h => ?_⟩
  refine PySem.W.methodCall_KW (pl := pl) (thn (he.run pins s σ H _ I h) fun u s1 ⟨x, H1, I1, rx, a, dx, fs, ex, ea, l, q⟩ => ?_) ht
  subst ex
  obtain rfl : u = Value.ref a := rx
  refine getmeth_ok I1 ea c hm l ?_
  refine PySem.W.callWith_K (first := [.ref a]) (h₀ := X.base) I.ok.mod.kin hm.kp (thn (ha.run pos pins s1 σ H1 _ I1 q) fun us s2 ⟨vs, H2, I2, r, q2⟩ => ⟨I2.kIn, ?_⟩) hst hpl
  exact run_fnS (us := .ref a :: us) (vs := .ref a :: vs) F hr hb (hx σ) I2 (.cons rfl r) q2
end
structure CalI (P : Program) (w : World) (K : PySem.W.Frag) (mg : Str → Option Value) (base : Heap) (b : Bg) (k : Nat) (n : Str) (ps : List Str) (S : SI) where
  f : Addr
  fd : FuncData
  F : FnOk P w K mg base (L2.CX P w) k f fd ps (spI b n S)
  M : Mk K (b.cls n) f
  g : mg n = some (.ref (b.cls n))
  bd : Binds K fd ps []
structure CalM (P : Program) (w : World) (K : PySem.W.Frag) (mg : Str → Option Value) (base : Heap) (b : Bg) (k : Nat) (n m : Str) (ps : List Str) (S : SV) where
  f : Addr
  fd : FuncData
  F : FnOk P w K mg base (L2.CX P w) k f fd ps (spV b S)
  c : Cls K (b.cls n)
  m : Meth K (b.cls n) m f
  bd : Binds K fd ps []
@[simp] def vMake (n : Str) (S : SI) (u : VA) : VT := fun ρ Q E => u ρ (fun ds => S ds (fun fs => ∀ a, Q (.obj a n fs)) E) E
@[simp] def vMeth (n m : Str) (S : SV) (t : VT) (u : VA) : VT := fun ρ Q E => t ρ (fun d => ∃ a fs, d = .obj a n fs ∧ fs.lookup m = none ∧ u ρ (fun ds => S (d :: ds) Q E) E) E
section
variable {X : Cx} {b : Bg} {W : WX} {k j : Nat} {n m : Str} {ps : List Str} {S : SV} {SJ : SI} {e o : Expr} {es : List Expr} {u : VA} {t : VT} {p pos apos : Pos}
theorem vn_make (c : CalI X.prog X.w X.K X.mg X.base b k n ps SJ) (hr : Room j X.A) (tk : Takes X W) (hg : Gl X n) (ha : VAs X b W (e :: es) u) (hk : k + 1 ≤ j := by decide) (hdb : (n == ("__debug__" : Str)) = false := by decide)
    (he : starEach (e :: es) X.env = (false, eval e X.env) :: starEach es X.env := by rfl) (hpl : (backTo pos (starEach es X.env)).any (·.1) = false := by rfl) : VN X b W (.Call (.Name n p) (e :: es) [] pos) (vMake n SJ u) := by
  refine pe_mono (pe_makeS c.M c.F (hr.mono hk) hg c.g c.bd (passAt tk) ha hdb he hpl) ?_
  exact fun σ H Q ⟨Zo, Z, ρ, Qd, Ed, v, q, l, mm⟩ => ⟨Zo, Z, ρ, _, Ed, v, q, fun vs H1 ds x1 g1 r1 q1 x dx hx hdx hne => by
    have v1 := v.ex x1 g1
    generalize hH2 : upd (upd H1 dx (.own x)) x (.ins (b.cls n) dx []) = H2
    have at_ : ∀ c, c ≠ x → c ≠ dx → H2 c = H1 c := fun c c1 c2 => by rw [← hH2, upd_ne c1, upd_ne c2]
    have x2 : Ex b H1 H2 := fun c o hc _ => by
      rw [at_ c (fun z => by rw [z, hx] at hc; cases hc) (fun z => by rw [z, hdx] at hc; cases hc)]
      exact hc
    have g2 : b.G H2 := b.loc H1 H2 (fun c hc => at_ c (fun z => b.dom H1 c g1 hc (by rw [z]; exact hx)) (fun z => b.dom H1 c g1 hc (by rw [z]; exact hdx))) (fun c o _ e => by rw [at_ c (fun z => by rw [z, hx] at e; cases e) (fun z => by rw [z, hdx] at e; cases e)]; exact e) g1
    have v2 := v1.ex x2 g2
    have h2x : H2 x = some (.ins (b.cls n) dx []) := by rw [← hH2]; exact upd_same
    have nzx : ¬ Z x := v1.fresh hx
    have n0 : H x = none := by
      cases q : H x with
      | none => rfl
      | some o =>
        by_cases hb : b.B x
        · exact absurd hx (b.dom _ _ g1 hb)
        · rw [x1 x o q hb] at hx; cases hx
    have back : ∀ {H'}, (∀ a o, H2 a = some o → ¬ b.B a → a ≠ x → H' a = some o) → Ex b H H' := fun {H'} h a o e nb =>
      h a o (x2 a o (x1 a o e nb) nb) nb (fun q => by rw [q, n0] at e; cases e)
    refine ⟨x, dx, vs, Z, ds, _, Ed, rfl, h2x, v2.gd, nzx, r1.mono (fun c z => z.imp id fun e => by rw [e]; exact hx) (fun c o e nz => ?_), q1, fun H' fs ext g' ow qf => ⟨rfl, l _ H' (.obj x n fs) (back ext) g' ⟨x, rfl, n0, ow⟩ (qf x)⟩, fun c d H' er ext g' re qe => mm c d H' er (back ext) g' re qe⟩
    exact x2 c o e (v1.nb nz), mm⟩
theorem ve_meth {pl : Sem Bool} (c : CalM X.prog X.w X.K X.mg X.base b k n m ps S) (hr : Room j X.A) (tk : Takes X W) (ho : VE X b W o t) (ha : VAs X b W (e :: es) u) (hk : k ≤ j := by decide)
    (hst : starEach (e :: es) X.env = (false, eval e X.env) :: starEach es X.env := by rfl) (hpl : (backTo pos (starEach es X.env)).any (·.1) = false := by rfl)
    (ht : eval (.Call (.Attribute o m apos) (e :: es) [] pos) X.env = (do
      let ov ← eval o X.env
      standAt apos.atName
      let (f, first) ← holding [ov] (getMethod ov m pl)
      callWith pos f first (backTo pos (starEach (e :: es) X.env)) (backToKw pos (keywordEach [] X.env))) := by rfl) : VE X b W (.Call (.Attribute o m apos) (e :: es) [] pos) (vMeth n m S t u) := by
  refine pe_mono (pe_methS (pl := pl) ho c.c c.m c.F (hr.mono hk) c.bd (passAt tk) ha hst hpl ht) ?_
  exact fun σ H Q ⟨Zo, Z, ρ, Qd, Ed, v, q, l, mm⟩ => ⟨Zo, Z, ρ, _, Ed, v, q, fun x H1 d x1 g1 r1 ⟨a, fs, ed, hf, q1⟩ => by
    subst ed
    have v1 := v.ex x1 g1
    obtain ⟨dx, xs, ex, hH, nz, rq⟩ := id r1
    exact ⟨a, dx, xs, ex, hH, rq.none hf, Zo, Z, ρ, _, Ed, v1, q1, fun vs H2 ds x2 g2 r2 q2 => by
      have v2 := v1.ex x2 g2
      exact ⟨Z, .obj a n fs :: ds, Qd, Ed, v2.gd, .cons (v1.rp x2 r1) r2, q2, fun y H3 d x3 g3 r3 q3 => l y H3 d ((x1.trans x2).trans x3) g3 r3 q3, fun c z H3 er x3 g3 r3 q3 => mm c z H3 er ((x1.trans x2).trans x3) g3 r3 q3⟩, fun c z H2 er x2 g2 r2 q2 => mm c z H2 er (x1.trans x2) g2 r2 q2⟩, mm⟩
end
/-! ### the class's facts, for the join -/
structure ClsB (K : PySem.W.Frag) (C : Addr) (n qual : Str) (st : Stmt) : Prop where
  ns : PySem.W.nsIn K mainGlobals n = some (some (.ref C))
  c : Cls K C
  ini : ∃ (fI : Addr) (fd : FuncData), Fun K "__init__" qual st fI fd ∧ Mk K C fI
structure ClsK (K : PySem.W.Frag) (n qual : Str) (st : Stmt) : Prop where
  ex : ∃ C : Addr, ClsB K C n qual st
theorem clsK {K : PySem.W.Frag} {C fI : Addr} {n qual : Str} {st : Stmt} {oc kV doc pm cdv ct : Value} {od an : Option Addr} {osl : Array (Option Value)} (a1 : PySem.W.nsIn K mainGlobals n = some (some (.ref C)))
    (a2 : PySem.W.plainGet K C Str.empty = true) (a3 : PySem.W.hasDictIn K C = true) (a4 : PySem.W.plainOver K C = true) (a5 : PySem.W.findIn K (.ref C) "__setattr__" = some (some (.builtin "object.__setattr__")))
    (m1 : PySem.W.makesIn K C = true) (m2 : PySem.W.findIn K (.ref C) "__init__" = some (some (.ref fI))) (m3 : PySem.W.isFn K (.ref fI) = true) (m4 : PySem.W.keepIn K (.ref C) = true)
    (d3 : K.lookup fI = some ⟨oc, od, .func (PySem.W.fnOf "__init__" qual (defArgs st) (defBody st) (defScope st) .none kV doc pm an cdv ct), osl⟩) (d4 : PySem.W.codeIn K cdv qual = true) (d5 : PySem.W.keepIn K (.ref fI) = true) : ClsK K n qual st :=
  ⟨C, a1, ⟨a2, a3, a4, a5⟩, fI, _, fun_mk d3 d4 d5, m1, m2, m3, m4⟩
/-- the class n has no attribute f -/
structure NoAtK (K : PySem.W.Frag) (n f : Str) : Prop where
  ex : ∃ C : Addr, PySem.W.nsIn K mainGlobals n = some (some (.ref C)) ∧ NoAttr K C f
theorem noAtK {K : PySem.W.Frag} {C : Addr} {n f : Str} (a1 : PySem.W.nsIn K mainGlobals n = some (some (.ref C))) (a2 : PySem.W.findIn K (.ref C) f = some none) : NoAtK K n f := ⟨C, a1, a2⟩
theorem NoAtK.at {K : PySem.W.Frag} {C : Addr} {n f : Str} (a : NoAtK K n f) (h : PySem.W.nsIn K mainGlobals n = some (some (.ref C))) : NoAttr K C f := by
  obtain ⟨D, h1, h2⟩ := a.ex
  have : D = C := by
    have := h1.symm.trans h
    injection this with this; injection this with this; injection this
  subst this
  exact h2
/-- the class n has the method m -/
structure MethK (K : PySem.W.Frag) (n m qual : Str) (st : Stmt) : Prop where
  ex : ∃ C : Addr, PySem.W.nsIn K mainGlobals n = some (some (.ref C)) ∧ ∃ (fI : Addr) (fd : FuncData), Fun K m qual st fI fd ∧ Meth K C m fI
theorem methK {K : PySem.W.Frag} {C fI : Addr} {n m qual : Str} {st : Stmt} {oc kV doc pm cdv ct : Value} {od an : Option Addr} {osl : Array (Option Value)} (a1 : PySem.W.nsIn K mainGlobals n = some (some (.ref C)))
    (m2 : PySem.W.findIn K (.ref C) m = some (some (.ref fI))) (m3 : PySem.W.isFn K (.ref fI) = true)
    (d3 : K.lookup fI = some ⟨oc, od, .func (PySem.W.fnOf m qual (defArgs st) (defBody st) (defScope st) .none kV doc pm an cdv ct), osl⟩) (d4 : PySem.W.codeIn K cdv qual = true) (d5 : PySem.W.keepIn K (.ref fI) = true) : MethK K n m qual st :=
  ⟨C, a1, fI, _, fun_mk d3 d4 d5, m2, m3, d5⟩
theorem MethK.at {K : PySem.W.Frag} {C : Addr} {n m qual : Str} {st : Stmt} (a : MethK K n m qual st) (h : PySem.W.nsIn K mainGlobals n = some (some (.ref C))) : ∃ (fI : Addr) (fd : FuncData), Fun K m qual st fI fd ∧ Meth K C m fI := by
  obtain ⟨D, h1, h2⟩ := a.ex
  have : D = C := by
    have := h1.symm.trans h
    injection this with this; injection this with this; injection this
  subst this
  exact h2
end VL
set_option Elab.async false
set_option linter.all false
set_option maxRecDepth 100000
set_option maxHeartbeats 4000000
/-! VL73: a, b, .. = a list -/
namespace VL
open PySem PySem.Spec PyProof.Rows L2
section
variable {X : Cx} {b : Bg} {pos : Pos}
@[simp] def tgUnl (n : Nat) (u : VTgs) : VTg
  | .py (.list ps), ρ, Q => ps.length = n ∧ u (ps.map D.py) ρ Q
  | _, _, _ => False
end
end VL
set_option Elab.async false
set_option linter.all false
set_option maxRecDepth 100000
set_option maxHeartbeats 4000000
/-! VL74: a dict beside a text -/
namespace PySem
open PySem.Spec PyProof.Rows PySem.SeqAt
open Sem (wp)
end PySem
namespace VL
open PySem PySem.Spec PyProof.Rows L2
section
variable {X : Cx} {b : Bg} {W : WX} {e1 e2 : Expr} {t1 t2 : VT} {pos : Pos}
/-- .. a text on the right; a dict is no text -/
@[simp] def gEqT : D → D → (D → Prop) → Prop
  | .py (.dict _), .py (.str _), Q => Q (.py (.bool false))
  | x, y, Q => gEq x y Q
@[simp] def gNeT : D → D → (D → Prop) → Prop
  | .py (.dict _), .py (.str _), Q => Q (.py (.bool true))
  | x, y, Q => gNe x y Q
end
end VL
set_option Elab.async false
set_option linter.all false
set_option maxRecDepth 100000
set_option maxHeartbeats 4000000
/-! VL75: the cells: a list of a list (that stands still) and two numbers -/
namespace VL
open PySem PySem.Spec PyProof.Rows L2
section
variable {X : Cx} {e : Expr} {t : TE}
end
end VL
set_option Elab.async false
set_option linter.all false
set_option maxRecDepth 100000
set_option maxHeartbeats 4000000
/-! VL76: sorted of a list of texts, any number of them -/
namespace VL
open PySem PySem.Spec PyProof.Rows L2
/-- the order of texts -/
def ltT (a b : Str) : Bool := ltCps a.cps.toList b.cps.toList
def sortSt (L : List Str) : List Str := L.mergeSort fun a b => !ltT b a
section
variable {X : Cx}
end
@[simp] def gSortedS : List D → (D → Prop) → Prop
  | [.py (.list xs)], Q => ∃ L : List Str, xs = L.map PyData.str ∧ Q (.py (.list ((sortSt L).map PyData.str)))
  | _, _ => False
section
variable {X : Cx} {b : Bg} {W : WX} {e : Expr} {es : List Expr} {u : VA} {p pos : Pos}
end
end VL
set_option Elab.async false
set_option linter.all false
set_option maxRecDepth 100000
set_option maxHeartbeats 4000000
/-! VL77: len(set(l)), l a list of ints -/
namespace VL
open PySem PySem.Spec PyProof.Rows L2
section
variable {X : Cx}
end
@[simp] def vLenSetL (t : VT) : VT := fun ρ Q E => t ρ (fun d => ∃ xs ns, d = .py (.list xs) ∧ allI xs = some ns ∧ ns.length < 4095 ∧ ∀ ks : List Int, ks.Nodup → (∀ j, j ∈ ks ↔ j ∈ ns) → Q (.py (.int (ks.length : Nat)))) E
end VL
set_option Elab.async false
set_option linter.all false
set_option maxRecDepth 100000
set_option maxHeartbeats 4000000
/-! VL78: list(zip(a, b)), tuple(zip(a, b)) of two lists or of two tuples -/
namespace VL
open PySem PySem.Spec PyProof.Rows L2
/-- an iterator of a tuple (true) or a list that stands at item k -/
def ZSrc : Bool → Heap → Addr → Addr → Nat → Array Value → Prop
  | true, h, i, l, k, xs => h.IsTupleIter i l k ∧ h.IsTuple l xs
  | false, h, i, l, k, xs => h.IsListIter i l k ∧ h.IsList l xs
theorem ZSrc.keep {t : Bool} {h h' : Heap} {i l : Addr} {k : Nat} {xs : Array Value} (st : ZSrc t h i l k xs) (k1 : ∀ o, h.get? i = some o → h'.get? i = some o) (k2 : ∀ o, h.get? l = some o → h'.get? l = some o) : ZSrc t h' i l k xs := by
  cases t with
  | true =>
    obtain ⟨⟨o, ho, r⟩, ⟨o2, ho2, r2⟩⟩ := st
    exact ⟨⟨o, k1 o ho, r⟩, ⟨o2, k2 o2 ho2, r2⟩⟩
  | false =>
    obtain ⟨⟨o, ho, r⟩, ⟨o2, ho2, r2⟩⟩ := st
    exact ⟨⟨o, k1 o ho, r⟩, ⟨o2, k2 o2 ho2, r2⟩⟩
section
variable {prog : Program} {w : World} {A : Around} {E : Value → Shared → Prop} {s : Shared}
theorem src_item {t : Bool} {i l : Addr} {k : Nat} {xs : Array Value} {x : Value} {Q : Value → Shared → Prop} (st : ZSrc t s.heap i l k xs) (ne : l ≠ i) (hx : xs[k]? = some x)
    (q : ∀ h', ZSrc t h' i l (k + 1) xs → Heap.SameBut i s.heap h' → Q x { s with heap := h' }) : wpAny (model prog w) A (Builtin.SmallTypes.nextOf (.ref i)) Q E s := by
  cases t with
  | true => exact PySem.wpAny_nextOf_tuple_item st.1 st.2 hx fun h' r sb => q h' ⟨r, st.2.at fun o e => sb.extBut _ _ ne e⟩ sb
  | false => exact wpAny_nextOf_list_item st.1 st.2 hx fun h' r sb => q h' ⟨r, st.2.at fun o e => sb.extBut _ _ ne e⟩ sb
theorem src_end {t : Bool} {i l : Addr} {k : Nat} {xs : Array Value} {Q : Value → Shared → Prop} (hh : A.handled = none) (st : ZSrc t s.heap i l k xs) (hx : xs[k]? = none)
    (q : ∀ h' e, Heap.ExtBut i s.heap h' → (∃ o, h'.get? e = some o ∧ o.cls = .type "StopIteration") → E (.ref e) { s with heap := h' }) : wpAny (model prog w) A (Builtin.SmallTypes.nextOf (.ref i)) Q E s := by
  cases t with
  | true => exact PySem.wpAny_nextOf_tuple_end hh st.1 st.2 hx q
  | false => exact wpAny_nextOf_list_end hh st.1 st.2 hx q
/-- the next pair while the one that was given out is still there -/
theorem zh_item {t : Bool} {z TI TO T i1 i2 a b : Addr} {f : Bool} {oT : Obj} {k : Nat} {xs ys : Array Value} {x y : Value} {Q : Option Value → Shared → Prop} (D : ZipApart z TI TO i1 i2 a b) (hz : IsZipHeld s.heap z TI TO T f) (hT : s.heap.get? T = some oT) (hTI : IsPair s.heap TI (.ref i1) (.ref i2))
    (st1 : ZSrc t s.heap i1 a k xs) (st2 : ZSrc t s.heap i2 b k ys) (hx : xs[k]? = some x) (hy : ys[k]? = some y)
    (q : ∀ h', IsZipHeld h' z TI TO T true → ZSrc t h' i1 a (k + 1) xs → ZSrc t h' i2 b (k + 1) ys → IsPair h' s.heap.objs.size x y → h'.objs.size = s.heap.objs.size + 1 → (∀ c o, c ≠ z → c ≠ i1 → c ≠ i2 → s.heap.get? c = some o → h'.get? c = some o) → Q (some (.ref s.heap.objs.size)) { s with heap := h' }) :
    wpAny (model prog w) A (pyNext (.ref z)) Q E s := by
  have isZ : s.TypeIs (.ref z) "zip" := ⟨_, hz, rfl⟩
  have body : ∀ (A' : Around) (E' : Value → Shared → Prop) (QV : Value → Shared → Prop), (∀ h', IsZipHeld h' z TI TO T true → ZSrc t h' i1 a (k + 1) xs → ZSrc t h' i2 b (k + 1) ys → IsPair h' s.heap.objs.size x y → h'.objs.size = s.heap.objs.size + 1 → (∀ c o, c ≠ z → c ≠ i1 → c ≠ i2 → s.heap.get? c = some o → h'.get? c = some o) → QV (.ref s.heap.objs.size) { s with heap := h' }) →
      wpAny (model prog w) A' (Builtin.«zip.__next__» ⟨[.ref z], []⟩) (fun fin s' => ∃ v, fin = .done (.ret v) ∧ QV v s') E' s := by
    intro A' E' QV hq
    show wpAny _ _ (field (Value.ref z) 2 >>= _) _ _ s
    refine wpAny_bind (wpAny_field (x := .bool false) hz rfl rfl ?_)
    show wpAny _ _ (field (Value.ref z) 3 >>= _) _ _ s
    refine wpAny_bind (wpAny_field (x := .ref TI) hz rfl rfl ?_)
    refine wpAny_bind (wpAny_seqItems (h := ?_) hTI rfl)
    show wpAny _ _ (Builtin.SmallTypes.ownedTupleIsFree (Value.ref z) >>= _) _ _ s
    refine wpAny_bind (wpAny_tupleHeld_zip hz hT fun g1 z1 sb1 => ?_)
    simp only [if_false, Bool.false_eq_true]
    refine wpAny_bind ?_
    rw [← Array.forIn_toList]
    simp only [List.forIn_nil, List.forIn_cons]
    refine wpAny_bind (wpAny_bind (wpAny_holding ?_))
    show wpAny _ _ (Builtin.SmallTypes.nextOf (Value.ref i1) >>= _) _ _ _
    have e1 : ZSrc t g1 i1 a k xs := st1.keep (fun o e => sb1.extBut _ _ D.i1z e) fun o e => sb1.extBut _ _ D.l1z e
    refine wpAny_bind (src_item (s := { s with heap := g1 }) e1 D.l1i1 hx fun g2 f1 sb2 => wpAny_pure (wpAny_pure ?_))
    refine wpAny_bind (wpAny_bind (wpAny_holding ?_))
    show wpAny _ _ (Builtin.SmallTypes.nextOf (Value.ref i2) >>= _) _ _ _
    have e2 : ZSrc t g2 i2 b k ys := (st2.keep (h' := g1) (fun o e => sb1.extBut _ _ D.i2z e) fun o e => sb1.extBut _ _ D.l2z e).keep (fun o e => sb2.extBut _ _ D.i12.symm e) fun o e => sb2.extBut _ _ D.l2i1 e
    refine wpAny_bind (src_item (s := { s with heap := g2 }) e2 D.l2i2 hy fun g3 f2 sb3 => wpAny_pure (wpAny_pure (wpAny_pure ?_)))
    show wpAny _ _ (newTuple [x, y] >>= _) _ _ _
    refine wpAny_bind (wpAny_newTuple ?_)
    have hsz : g3.objs.size = s.heap.objs.size := by rw [sb3.1, sb2.1, sb1.1]
    have z3 : IsZipHeld g3 z TI TO T true := sb3.extBut _ _ D.i2z.symm (sb2.extBut _ _ D.i1z.symm z1)
    have f1' : ZSrc t g3 i1 a (k + 1) xs := f1.keep (fun o e => sb3.extBut _ _ D.i12 e) fun o e => sb3.extBut _ _ D.l1i2 e
    have kp : ∀ c o, c ≠ z → c ≠ i1 → c ≠ i2 → s.heap.get? c = some o → g3.get? c = some o := fun c o c1 c2 c3 e => sb3.extBut _ _ c3 (sb2.extBut _ _ c2 (sb1.extBut _ _ c1 e))
    have np : IsPair (g3.push { cls := .type "tuple", data := .seq #[x, y] }) g3.objs.size x y := Heap.get?_push_size _ rfl
    have ns : (g3.push { cls := .type "tuple", data := .seq #[x, y] }).objs.size = g3.objs.size + 1 := Heap.size_push ..
    refine wpAny_pure ⟨_, rfl, ?_⟩
    show QV (Value.ref g3.objs.size) _
    rw [hsz] at np ns ⊢
    exact hq _ (Heap.get?_push_of_some _ z3) (f1'.keep (fun o e => Heap.get?_push_of_some _ e) fun o e => Heap.get?_push_of_some _ e) (f2.keep (fun o e => Heap.get?_push_of_some _ e) fun o e => Heap.get?_push_of_some _ e) np ns fun c o c1 c2 c3 e => Heap.get?_push_of_some _ (kp c o c1 c2 c3 e)
  unfold pyNext
  exact wpAny_bind (wpAny_attempt (wpAny_callSpecial?_slot (name := Str.ofString "__next__") isZ F.slot_zip_next (wpAny_call_entry F.slot_zip_next isZ F.entry_zip_next (body _ _ _ fun h' a1 a2 a3 a4 a5 a6 => wpAny_pure (q h' a1 a2 a3 a4 a5 a6)) (F.args_zip_next_1 _))))
theorem zh_end {t : Bool} {z TI TO T i1 i2 a b : Addr} {f : Bool} {oT : Obj} {k : Nat} {xs ys : Array Value} {Q : Option Value → Shared → Prop} (hh : A.handled = none) (D : ZipApart z TI TO i1 i2 a b) (hz : IsZipHeld s.heap z TI TO T f) (hT : s.heap.get? T = some oT) (hTI : IsPair s.heap TI (.ref i1) (.ref i2))
    (st1 : ZSrc t s.heap i1 a k xs) (st2 : ZSrc t s.heap i2 b k ys) (he : xs[k]? = none ∨ ys[k]? = none)
    (q : ∀ h', (∀ c o, c ≠ z → c ≠ i1 → c ≠ i2 → s.heap.get? c = some o → h'.get? c = some o) → Q none { s with heap := h' }) : wpAny (model prog w) A (pyNext (.ref z)) Q E s := by
  have isZ : s.TypeIs (.ref z) "zip" := ⟨_, hz, rfl⟩
  have body : ∀ (A' : Around), A'.handled = none → ∀ (QQ : PySem.Fin → Shared → Prop) (E2 : Value → Shared → Prop), (∀ h' e, (∀ c o, c ≠ z → c ≠ i1 → c ≠ i2 → s.heap.get? c = some o → h'.get? c = some o) → (∃ o, h'.get? e = some o ∧ o.cls = .type "StopIteration") → E2 (.ref e) { s with heap := h' }) → wpAny (model prog w) A' (Builtin.«zip.__next__» ⟨[.ref z], []⟩) QQ E2 s := by
    intro A' hh QQ E2 hE
    show wpAny _ _ (field (Value.ref z) 2 >>= _) _ _ s
    refine wpAny_bind (wpAny_field (x := .bool false) hz rfl rfl ?_)
    show wpAny _ _ (field (Value.ref z) 3 >>= _) _ _ s
    refine wpAny_bind (wpAny_field (x := .ref TI) hz rfl rfl ?_)
    refine wpAny_bind (wpAny_seqItems (h := ?_) hTI rfl)
    show wpAny _ _ (Builtin.SmallTypes.ownedTupleIsFree (Value.ref z) >>= _) _ _ s
    refine wpAny_bind (wpAny_tupleHeld_zip hz hT fun g1 z1 sb1 => ?_)
    simp only [if_false, Bool.false_eq_true]
    refine wpAny_bind ?_
    rw [← Array.forIn_toList]
    simp only [List.forIn_nil, List.forIn_cons]
    refine wpAny_bind (wpAny_bind (wpAny_holding ?_))
    show wpAny _ _ (Builtin.SmallTypes.nextOf (Value.ref i1) >>= _) _ _ _
    have e1 : ZSrc t g1 i1 a k xs := st1.keep (fun o e => sb1.extBut _ _ D.i1z e) fun o e => sb1.extBut _ _ D.l1z e
    cases hx : xs[k]? with
    | none => exact wpAny_bind (src_end (s := { s with heap := g1 }) hh e1 hx fun g2 e sb2 he => hE g2 e (fun c o c1 c2 _ r => sb2 _ _ c2 (sb1.extBut _ _ c1 r)) he)
    | some x =>
      have hy : ys[k]? = none := he.resolve_left fun z => by rw [hx] at z; cases z
      refine wpAny_bind (src_item (s := { s with heap := g1 }) e1 D.l1i1 hx fun g2 f1 sb2 => wpAny_pure (wpAny_pure ?_))
      refine wpAny_bind (wpAny_bind (wpAny_holding ?_))
      show wpAny _ _ (Builtin.SmallTypes.nextOf (Value.ref i2) >>= _) _ _ _
      have e2 : ZSrc t g2 i2 b k ys := (st2.keep (h' := g1) (fun o e => sb1.extBut _ _ D.i2z e) fun o e => sb1.extBut _ _ D.l2z e).keep (fun o e => sb2.extBut _ _ D.i12.symm e) fun o e => sb2.extBut _ _ D.l2i1 e
      exact wpAny_bind (src_end (s := { s with heap := g2 }) hh e2 hy fun g3 e sb3 he => hE g3 e (fun c o c1 c2 c3 r => sb3 _ _ c3 (sb2.extBut _ _ c2 (sb1.extBut _ _ c1 r))) he)
  unfold pyNext
  refine wpAny_bind (wpAny_attempt (wpAny_callSpecial?_slot (name := Str.ofString "__next__") isZ F.slot_zip_next (wpAny_call_entry F.slot_zip_next isZ F.entry_zip_next (body _ (show A.in1.handled = none from hh) _ _ fun h' e hk he => ?_) (F.args_zip_next_1 _))))
  obtain ⟨o, ho, hc⟩ := he
  refine wpAny_bind (wpAny_isInstance (b := true) (T := "StopIteration") ⟨o, ho, hc⟩ isSubtype_stop ?_)
  exact wpAny_pure (q _ hk)
end
/-! ### the walk to its end -/
/-- where the zip stands: nothing given out yet, or the last pair still there -/
def ZSt (t : Bool) (h : Heap) (z TI TO i1 i2 a b S : Addr) (k : Nat) (xs ys : Array Value) : Prop :=
  IsPair h TI (.ref i1) (.ref i2) ∧ ZSrc t h i1 a k xs ∧ ZSrc t h i2 b k ys ∧
    ((IsZip h z TI TO .none ∧ ∃ x y, IsPair h TO x y) ∨ ∃ T f oT, IsZipHeld h z TI TO T f ∧ h.get? T = some oT ∧ S < T)
structure ZFar (z TI TO i1 i2 a b S : Addr) : Prop where
  z : z < S
  TI : TI < S
  TO : TO < S
  i1 : i1 < S
  i2 : i2 < S
  a : a < S
  b : b < S
theorem ZSt.keep {t : Bool} {h h' : Heap} {z TI TO i1 i2 a b S : Addr} {k : Nat} {xs ys : Array Value} (F : ZFar z TI TO i1 i2 a b S) (st : ZSt t h z TI TO i1 i2 a b S k xs ys) (kp : ∀ c o, c ≠ S → h.get? c = some o → h'.get? c = some o) : ZSt t h' z TI TO i1 i2 a b S k xs ys := by
  obtain ⟨h1, h2, h3, h4⟩ := st
  refine ⟨kp _ _ (Nat.ne_of_lt F.TI) h1, h2.keep (fun o => kp _ o (Nat.ne_of_lt F.i1)) fun o => kp _ o (Nat.ne_of_lt F.a), h3.keep (fun o => kp _ o (Nat.ne_of_lt F.i2)) fun o => kp _ o (Nat.ne_of_lt F.b), ?_⟩
  rcases h4 with ⟨e1, x, y, e2⟩ | ⟨T, f, oT, e1, e2, e3⟩
  · exact .inl ⟨kp _ _ (Nat.ne_of_lt F.z) e1, x, y, kp _ _ (Nat.ne_of_lt F.TO) e2⟩
  · exact .inr ⟨T, f, oT, kp _ _ (Nat.ne_of_lt F.z) e1, kp _ _ (Nat.ne_of_gt e3) e2, e3⟩
section
variable {prog : Program} {w : World} {A : Around} {E : Value → Shared → Prop} {s : Shared}
theorem zs_item {t : Bool} {z TI TO i1 i2 a b S : Addr} {k : Nat} {xs ys : Array Value} {x y : Value} {Q : Option Value → Shared → Prop} (D : ZipApart z TI TO i1 i2 a b) (F : ZFar z TI TO i1 i2 a b S) (hS : S < s.heap.objs.size) (st : ZSt t s.heap z TI TO i1 i2 a b S k xs ys) (hx : xs[k]? = some x) (hy : ys[k]? = some y)
    (q : ∀ h', ZSt t h' z TI TO i1 i2 a b S (k + 1) xs ys → IsPair h' s.heap.objs.size x y → h'.objs.size = s.heap.objs.size + 1 → (∀ c o, c ≠ z → c ≠ TO → c ≠ i1 → c ≠ i2 → s.heap.get? c = some o → h'.get? c = some o) → Q (some (.ref s.heap.objs.size)) { s with heap := h' }) :
    wpAny (model prog w) A (pyNext (.ref z)) Q E s := by
  obtain ⟨h1, h2, h3, h4⟩ := st
  rcases h4 with ⟨e1, x0, y0, e2⟩ | ⟨T, f, oT, e1, e2, e3⟩
  · cases t with
    | true => exact RZ.pyNext_zipT_item D e1 h1 e2 h2.1 h3.1 h2.2 h3.2 hx hy fun h' r1 r2 r3 r4 r5 r6 r7 => q h' ⟨r7 _ _ D.TIz D.TITO D.TIi1 D.TIi2 h1, ⟨r3, h2.2.at fun o e => r7 _ o D.l1z D.l1TO D.l1i1 D.l1i2 e⟩, ⟨r4, h3.2.at fun o e => r7 _ o D.l2z D.l2TO D.l2i1 D.l2i2 e⟩, .inr ⟨_, false, _, r1, r5, hS⟩⟩ r5 r6 r7
    | false => exact wpAny_pyNext_zip_item D e1 h1 e2 h2.1 h3.1 h2.2 h3.2 hx hy fun h' r1 r2 r3 r4 r5 r6 r7 => q h' ⟨r7 _ _ D.TIz D.TITO D.TIi1 D.TIi2 h1, ⟨r3, h2.2.at fun o e => r7 _ o D.l1z D.l1TO D.l1i1 D.l1i2 e⟩, ⟨r4, h3.2.at fun o e => r7 _ o D.l2z D.l2TO D.l2i1 D.l2i2 e⟩, .inr ⟨_, false, _, r1, r5, hS⟩⟩ r5 r6 r7
  · refine zh_item D e1 e2 h1 h2 h3 hx hy fun h' r1 r2 r3 r4 r5 r6 => q h' ⟨r6 _ _ D.TIz D.TIi1 D.TIi2 h1, r2, r3, .inr ⟨T, true, oT, r1, r6 _ _ (Nat.ne_of_gt (Nat.lt_trans F.z e3)) (Nat.ne_of_gt (Nat.lt_trans F.i1 e3)) (Nat.ne_of_gt (Nat.lt_trans F.i2 e3)) e2, e3⟩⟩ r4 r5 fun c o c1 _ c3 c4 e => r6 c o c1 c3 c4 e
theorem zs_end {t : Bool} {z TI TO i1 i2 a b S : Addr} {k : Nat} {xs ys : Array Value} {Q : Option Value → Shared → Prop} (hh : A.handled = none) (D : ZipApart z TI TO i1 i2 a b) (st : ZSt t s.heap z TI TO i1 i2 a b S k xs ys) (he : xs[k]? = none ∨ ys[k]? = none)
    (q : ∀ h', (∀ c o, c ≠ z → c ≠ TO → c ≠ i1 → c ≠ i2 → s.heap.get? c = some o → h'.get? c = some o) → Q none { s with heap := h' }) : wpAny (model prog w) A (pyNext (.ref z)) Q E s := by
  obtain ⟨h1, h2, h3, h4⟩ := st
  rcases h4 with ⟨e1, x0, y0, e2⟩ | ⟨T, f, oT, e1, e2, e3⟩
  · cases t with
    | true => exact RZ.pyNext_zipT_end hh D e1 h1 e2 h2.1 h3.1 h2.2 h3.2 he q
    | false => exact wpAny_pyNext_zip_end hh D e1 h1 e2 h2.1 h3.1 h2.2 h3.2 he q
  · exact zh_end hh D e1 e2 h1 h2 h3 he fun h' r => q h' fun c o c1 _ c3 c4 e => r c o c1 c3 c4 e
end
/-- the pairs given out, by their addresses -/
structure ZG (xs ys : Array Value) (lo : Addr) (h : Heap) (as : List Addr) : Prop where
  rise : as.Pairwise (· < ·)
  above : ∀ c ∈ as, lo < c
  pairs : ∀ (j : Nat) (c : Addr), as[j]? = some c → ∃ x y, xs[j]? = some x ∧ ys[j]? = some y ∧ IsPair h c x y
theorem ZG.there {xs ys : Array Value} {lo : Addr} {h : Heap} {as : List Addr} (g : ZG xs ys lo h as) {c : Addr} (hc : c ∈ as) : c < h.objs.size := by
  obtain ⟨j, hj⟩ := List.mem_iff_getElem?.mp hc
  obtain ⟨_, _, _, _, e⟩ := g.pairs j c hj
  exact Heap.lt_size e
abbrev lsO (acc : Array Value) (c : Nat) : Obj := { cls := .type "list", dict := none, data := .seq acc c, slots := #[] }
section
variable {prog : Program} {w : World} {A : Around} {s : Shared} {R : Result → Shared → Prop}
theorem zl_loop {t : Bool} {B S z TI TO i1 i2 a b : Addr} {xs ys : Array Value} {n : Nat} (hh : A.handled = none) (D : ZipApart z TI TO i1 i2 a b) (F : ZFar z TI TO i1 i2 a b S) (b1 : B ≤ z) (b2 : B ≤ TO) (b3 : B ≤ i1) (b4 : B ≤ i2) (b5 : B ≤ S) (hx : xs.size = n) (hy : ys.size = n) (hn : n ≤ sizeLine) (res : Value) {g : Heap}
    (hR : ∀ h' tk acc c as, (∀ d o, d < B → g.get? d = some o → h'.get? d = some o) → h'.get? S = some (lsO acc c) → as.length = n → ZG xs ys S h' as → acc.toList = as.map Value.ref → R (.ok (.ret res)) { s with heap := h', toks := tk }) :
    ∀ (m k : Nat) (h : Heap) (tk c : Nat) (acc : Array Value) (as : List Addr), n - k = m → k ≤ n → ZSt t h z TI TO i1 i2 a b S k xs ys → (∀ d o, d < B → g.get? d = some o → h.get? d = some o) → h.get? S = some (lsO acc c) → acc.toList = as.map Value.ref → as.length = k → ZG xs ys S h as →
      codeAny (model prog w) A (.builtin "list.extend.loop" ⟨[.ref S, .ref z, res], []⟩) R { s with heap := h, toks := tk } := by
  have wz : ∀ c : Addr, S ≤ c → c ≠ z ∧ c ≠ TO ∧ c ≠ i1 ∧ c ≠ i2 := fun c hc => ⟨Nat.ne_of_gt (Nat.lt_of_lt_of_le F.z hc), Nat.ne_of_gt (Nat.lt_of_lt_of_le F.TO hc), Nat.ne_of_gt (Nat.lt_of_lt_of_le F.i1 hc), Nat.ne_of_gt (Nat.lt_of_lt_of_le F.i2 hc)⟩
  have wb : ∀ c : Addr, c < B → c ≠ z ∧ c ≠ TO ∧ c ≠ i1 ∧ c ≠ i2 := fun c hc => ⟨Nat.ne_of_lt (Nat.lt_of_lt_of_le hc b1), Nat.ne_of_lt (Nat.lt_of_lt_of_le hc b2), Nat.ne_of_lt (Nat.lt_of_lt_of_le hc b3), Nat.ne_of_lt (Nat.lt_of_lt_of_le hc b4)⟩
  intro m
  induction m with
  | zero =>
    intro k h tk c acc as hm hk st kp hS hacc hal G
    have ek : k = n := by omega
    refine codeAny_builtin PySem.F.entry_extend_loop ?_
    rw [Around.under_plainId PySem.F.plain_extend_loop]
    show wpAny _ A.in1 (pyNext (Value.ref z) >>= _) _ _ _
    refine wpAny_bind (zs_end (s := { s with heap := h, toks := tk }) (show A.in1.handled = none from hh) D st (.inl (by rw [ek, ← hx]; simp)) fun h' r => ?_)
    have r' : ∀ d o, S ≤ d → h.get? d = some o → h'.get? d = some o := fun d o hd e => r d o (wz d hd).1 (wz d hd).2.1 (wz d hd).2.2.1 (wz d hd).2.2.2 e
    refine wpAny_pure (hR h' tk acc c as (fun d o hd e => r d o (wb d hd).1 (wb d hd).2.1 (wb d hd).2.2.1 (wb d hd).2.2.2 (kp d o hd e)) (r' _ _ (Nat.le_refl _) hS) (by omega) ⟨G.rise, G.above, fun j d hj => ?_⟩ hacc)
    obtain ⟨x, y, e1, e2, e3⟩ := G.pairs j d hj
    exact ⟨x, y, e1, e2, r' d _ (Nat.le_of_lt (G.above d (List.mem_of_getElem? hj))) e3⟩
  | succ m ih =>
    intro k h tk c acc as hm hk st kp hS hacc hal G
    have hlt : k < n := by omega
    have hasz : acc.size = k := by rw [← Array.length_toList, hacc, List.length_map, hal]
    obtain ⟨x, ex⟩ : ∃ x, xs[k]? = some x := ⟨xs[k]'(by omega), Array.getElem?_eq_getElem (by omega)⟩
    obtain ⟨y, ey⟩ : ∃ y, ys[k]? = some y := ⟨ys[k]'(by omega), Array.getElem?_eq_getElem (by omega)⟩
    have hSl : S < h.objs.size := Heap.lt_size hS
    refine codeAny_builtin PySem.F.entry_extend_loop ?_
    rw [Around.under_plainId PySem.F.plain_extend_loop]
    show wpAny _ A.in1 (pyNext (Value.ref z) >>= _) _ _ _
    refine wpAny_bind (zs_item (s := { s with heap := h, toks := tk }) D F hSl st ex ey fun h' st' hp hsz r => ?_)
    have r' : ∀ d o, S ≤ d → h.get? d = some o → h'.get? d = some o := fun d o hd e => r d o (wz d hd).1 (wz d hd).2.1 (wz d hd).2.2.1 (wz d hd).2.2.2 e
    have hS' := r' _ _ (Nat.le_refl _) hS
    dsimp only at hp hsz ⊢
    have up : ∀ d o, d ≠ S → h'.get? d = some o → (h'.update S (Obj.mapSeq (·.push (Value.ref h.objs.size)))).get? d = some o := fun d o hd e => (Heap.get?_update_other _ _ hd.symm).trans e
    show wpAny _ A.in1 (updateSeq S (·.push (Value.ref h.objs.size)) >>= _) _ _ _
    refine wpAny_bind ?_
    refine wpAny_updateSeq hS' rfl (wpAny_pure ⟨plainId_quiet PySem.F.plain_extend_loop _, ih (k + 1) _ tk _ (acc.push (Value.ref h.objs.size)) (as ++ [h.objs.size]) (by omega) hlt (st'.keep F up)
      (fun d o hd e => up d o (Nat.ne_of_lt (Nat.lt_of_lt_of_le hd b5)) (r d o (wb d hd).1 (wb d hd).2.1 (wb d hd).2.2.1 (wb d hd).2.2.2 (kp d o hd e))) (Heap.get?_update_self _ hS' rfl) (by rw [Array.toList_push, hacc, List.map_append]; rfl) (by rw [List.length_append, hal]; rfl) ⟨?_, ?_, ?_⟩⟩) (by rw [hasz]; omega) (by show (acc.push (Value.ref h.objs.size)).size ≤ sizeLine + 1; rw [Array.size_push, hasz]; omega)
    · refine List.pairwise_append.mpr ⟨G.rise, List.pairwise_singleton _ _, fun d hd e he => ?_⟩
      rw [List.mem_singleton.mp he]
      exact G.there hd
    · intro d hd
      rcases List.mem_append.mp hd with hd | hd
      · exact G.above d hd
      · rw [List.mem_singleton.mp hd]; exact hSl
    · intro j d hj
      rcases Nat.lt_trichotomy j as.length with g1 | g1 | g1
      · rw [List.getElem?_append_left g1] at hj
        obtain ⟨x', y', e1, e2, e3⟩ := G.pairs j d hj
        have hd := G.above d (List.mem_of_getElem? hj)
        exact ⟨x', y', e1, e2, up d _ (Nat.ne_of_gt hd) (r' d _ (Nat.le_of_lt hd) e3)⟩
      · subst g1
        have hd : h.objs.size = d := by simpa using hj
        subst hd
        exact ⟨x, y, by rw [hal]; exact ex, by rw [hal]; exact ey, up _ _ (Nat.ne_of_gt hSl) hp⟩
      · have hnone : (as ++ [h.objs.size])[j]? = none := List.getElem?_eq_none (by rw [List.length_append, List.length_singleton]; omega)
        rw [hnone] at hj; cases hj
end
theorem zip_nolen : typeLookup (.type "zip") "__len__" = pure none := by rw [typeLookup_type, builtinLookup_eq_fast]; kernel_rfl
theorem zip_nohint : typeLookup (.type "zip") "__length_hint__" = pure none := by rw [typeLookup_type, builtinLookup_eq_fast]; kernel_rfl
section
variable {prog : Program} {w : World} {A : Around} {E : Value → Shared → Prop} {s : Shared} {R : Result → Shared → Prop}
theorem zl_extend {t : Bool} {B S z TI TO i1 i2 a b : Addr} {xs ys : Array Value} {n c0 : Nat} (hh : A.handled = none) (D : ZipApart z TI TO i1 i2 a b) (F : ZFar z TI TO i1 i2 a b S) (b1 : B ≤ z) (b2 : B ≤ TO) (b3 : B ≤ i1) (b4 : B ≤ i2) (b5 : B ≤ S) (hx : xs.size = n) (hy : ys.size = n) (hn : n ≤ sizeLine) (res : Value)
    (hz : IsZip s.heap z TI TO .none) (hTI : IsPair s.heap TI (.ref i1) (.ref i2)) (hTO : ∃ x y, IsPair s.heap TO x y) (st1 : ZSrc t s.heap i1 a 0 xs) (st2 : ZSrc t s.heap i2 b 0 ys) (hS : s.heap.get? S = some (lsO #[] c0))
    (hR : ∀ h' tk acc c as, (∀ d o, d < B → s.heap.get? d = some o → h'.get? d = some o) → h'.get? S = some (lsO acc c) → as.length = n → ZG xs ys S h' as → acc.toList = as.map Value.ref → R (.ok (.ret res)) { s with heap := h', toks := tk }) :
    wpAny (model prog w) A.in1 (Builtin.List.listExtendWith (.ref S) (.ref z) res) (fun fin s' => match fin with | .done f => R (.ok f) s' | .again c' => c'.quiet = true ∧ codeAny (model prog w) A c' R s') (fun e s' => R (.error e) s') s := by
  have isZ : s.TypeIs (.ref z) "zip" := ⟨_, hz, rfl⟩
  have e1 : Builtin.List.listSameRef (.ref S) (.ref z) = false := by simp [Builtin.List.listSameRef, Nat.ne_of_gt F.z]
  have e2 : (Value.type "zip" == Value.type "list") = false := by decide
  have e3 : (Value.type "zip" == Value.type "tuple") = false := by decide
  have st : ZSt t s.heap z TI TO i1 i2 a b S 0 xs ys := ⟨hTI, st1, st2, .inl ⟨hz, hTO⟩⟩
  unfold Builtin.List.listExtendWith
  refine wpAny_bind (wpAny_typeOf isZ ?_)
  simp only [e1, e2, e3, Bool.false_eq_true, Bool.or_false, if_false]
  refine wpAny_bind (wpAny_pyIter_zip hz ?_)
  refine wpAny_bind (wpAny_holding ?_)
  unfold Builtin.List.listLengthHint
  refine wpAny_bind (wpAny_specialOf isZ zip_nolen ?_)
  show wpAny _ A.in1 (specialOf (Value.ref z) (Str.ofString "__length_hint__") >>= _) _ _ s
  refine wpAny_bind (wpAny_specialOf isZ zip_nohint ?_)
  refine wpAny_pure ?_
  show wpAny _ A.in1 (rule "list.extend.makes-room" >>= fun _ => Builtin.List.listTouch (Value.ref S) >>= fun _ => again (.builtin "list.extend.loop" ⟨[.ref S, .ref z, res], []⟩)) _ _ s
  refine wpAny_bind (wpAny_rule (wpAny_bind ?_))
  show wpAny _ A.in1 (updateSeq S (·.push Value.none) >>= fun _ => updateSeq S (·.pop)) _ _ s
  refine wpAny_bind (wpAny_updateSeq hS rfl ?_)
  have hS2 := Heap.get?_update_self (Obj.mapSeq (·.push Value.none)) hS rfl
  refine wpAny_updateSeq hS2 rfl ?_
  have hS3 := Heap.get?_update_self (Obj.mapSeq (·.pop)) hS2 rfl
  have oth : ∀ d o, d ≠ S → s.heap.get? d = some o → ((s.heap.update S (Obj.mapSeq (·.push Value.none))).update S (Obj.mapSeq (·.pop))).get? d = some o := fun d o hd e => (Heap.get?_update_other _ _ hd.symm).trans ((Heap.get?_update_other _ _ hd.symm).trans e)
  exact wpAny_pure ⟨plainId_quiet PySem.F.plain_extend_loop _, zl_loop hh D F b1 b2 b3 b4 b5 hx hy hn res hR n 0 _ s.toks _ _ [] (Nat.sub_zero _) (Nat.zero_le _) (st.keep F oth) (fun d o hd e => oth d o (Nat.ne_of_lt (Nat.lt_of_lt_of_le hd b5)) e) hS3 rfl rfl ⟨List.Pairwise.nil, (fun _ hc => nomatch hc), fun j c hj => by simp at hj⟩⟩
theorem zl_call {t : Bool} {B z TI TO i1 i2 a b : Addr} {xs ys : Array Value} {n : Nat} {Q : Value → Shared → Prop} (hh : A.handled = none) (D : ZipApart z TI TO i1 i2 a b) (F : ZFar z TI TO i1 i2 a b s.heap.objs.size) (b1 : B ≤ z) (b2 : B ≤ TO) (b3 : B ≤ i1) (b4 : B ≤ i2) (b5 : B ≤ s.heap.objs.size) (hx : xs.size = n) (hy : ys.size = n) (hn : n ≤ sizeLine)
    (hz : IsZip s.heap z TI TO .none) (hTI : IsPair s.heap TI (.ref i1) (.ref i2)) (hTO : ∃ x y, IsPair s.heap TO x y) (st1 : ZSrc t s.heap i1 a 0 xs) (st2 : ZSrc t s.heap i2 b 0 ys)
    (hQ : ∀ h' tk acc c as, (∀ d o, d < B → s.heap.get? d = some o → h'.get? d = some o) → h'.get? s.heap.objs.size = some (lsO acc c) → as.length = n → ZG xs ys s.heap.objs.size h' as → acc.toList = as.map Value.ref → Q (.ref s.heap.objs.size) { s with heap := h', toks := tk }) :
    wpAny (model prog w) A (call (.type "list") [.ref z]) Q E s := by
  refine callType_codes (Q₁ := fun obj s1 => obj = .ref s.heap.objs.size ∧ s1 = { s with heap := s.heap.push { cls := .type "list", data := .seq #[] } }) PySem.F.called_list (PySem.F.typeCall_list_1 _) PySem.F.entry_list_init (code_list_new _ ⟨rfl, rfl⟩) fun obj s1 h1 => ?_
  obtain ⟨rfl, rfl⟩ := h1
  have hS : (s.heap.push { cls := .type "list", data := .seq #[] }).get? s.heap.objs.size = some (lsO #[] 0) := Heap.get?_push_size _ rfl
  have up : ∀ d o, s.heap.get? d = some o → (s.heap.push { cls := .type "list", data := .seq #[] }).get? d = some o := fun d o e => Heap.get?_push_of_some _ e
  refine ⟨⟨_, hS, rfl⟩, PySem.F.args_list_init_2 _ _, ?_⟩
  generalize s.heap.push { cls := .type "list", data := .seq #[] } = g at hS up
  show wpAny _ _ (do let old ← Builtin.List.listItems (.ref s.heap.objs.size); Builtin.List.listUpdate (.ref s.heap.objs.size) (fun _ => #[]); letGo old.toList.reverse; Builtin.List.listExtendWith (.ref s.heap.objs.size) (.ref z) .none) _ _ _
  refine wpAny_bind ?_
  unfold Builtin.List.listItems
  refine wpAny_bind (wpAny_seqItems (s := { s with heap := g }) hS rfl (wpAny_pure ?_))
  show wpAny _ _ (updateSeq s.heap.objs.size (fun _ => #[]) >>= fun _ => letGo (#[] : Array Value).toList.reverse >>= fun _ => Builtin.List.listExtendWith (.ref s.heap.objs.size) (.ref z) .none) _ _ _
  refine wpAny_bind (wpAny_updateSeq (s := { s with heap := g }) hS rfl ?_)
  have hS2 := Heap.get?_update_self (Obj.mapSeq (fun _ => (#[] : Array Value))) hS rfl
  have oth : ∀ d o, d ≠ s.heap.objs.size → g.get? d = some o → (g.update s.heap.objs.size (Obj.mapSeq (fun _ => (#[] : Array Value)))).get? d = some o := fun d o hd e => (Heap.get?_update_other _ _ hd.symm).trans e
  have al : ∀ d o, d < s.heap.objs.size → s.heap.get? d = some o → (g.update s.heap.objs.size (Obj.mapSeq (fun _ => (#[] : Array Value)))).get? d = some o := fun d o hd e => oth d o (Nat.ne_of_lt hd) (up d o e)
  refine wpAny_bind (wpAny_letGo ?_)
  refine zl_extend (A := A.in1) (B := B) (show A.in1.handled = none from hh) D F b1 b2 b3 b4 b5 hx hy hn .none (al _ _ F.z hz) (al _ _ F.TI hTI) (hTO.imp fun x h => h.imp fun y e => al _ _ F.TO e) (st1.keep (fun o => al _ o F.i1) fun o => al _ o F.a) (st2.keep (fun o => al _ o F.i2) fun o => al _ o F.b) hS2 fun h' tk acc c as kp hS' hl G hacc => ?_
  exact ⟨rfl, hQ h' tk acc c as (fun d o hd e => kp d o hd (al d o (Nat.lt_of_lt_of_le hd b5) e)) hS' hl G hacc⟩
end
end VL
set_option Elab.async false
set_option linter.all false
set_option maxRecDepth 100000
set_option maxHeartbeats 4000000
/-! VL79: list(zip(a, b)) over values -/
namespace VL
open PySem PySem.Spec PyProof.Rows L2
def pairObj (u v : Value) : Obj := { cls := .type "tuple", data := .seq #[u, v] }
/-- the new list and its pairs, tracked -/
def zlay (H : Hp) (S : Addr) (as : List Addr) (xs ys : List V) (us vs : List Value) : Hp := fun c =>
  if c = S then some (.lst (as.map V.ref)) else if c ∈ as then some (HO.th (pairObj (us.getD (as.idxOf c) .none) (vs.getD (as.idxOf c) .none)) [xs.getD (as.idxOf c) .non, ys.getD (as.idxOf c) .non]) else H c
theorem idx_nd {as : List Addr} (nd : as.Nodup) {j : Nat} {c : Addr} (h : as[j]? = some c) : as.idxOf c = j := by
  obtain ⟨hj, e⟩ := List.getElem?_eq_some_iff.mp h
  rw [← e]
  exact List.Nodup.idxOf_getElem nd j hj
section
variable {X : Cx}
theorem zl_laid {pins : List (Addr × Obj)} {σ : L2.St} {H : Hp} {s : Shared} {h' : Heap} {tk : Nat} {xs ys : List V} {us vs : List Value} {acc : Array Value} {c : Nat} {as : List Addr} {S : Addr} (hSs : s.heap.objs.size ≤ S) (I : Inv X pins σ H s) (rx : Vals xs us) (ry : Vals ys vs) (hxy : xs.length = ys.length) (hz : xs.length ≤ sizeLine)
    (hk : ∀ b o, s.heap.get? b = some o → h'.get? b = some o) (hS : h'.get? S = some (lsO acc c)) (hl : as.length = us.length) (G : ZG us.toArray vs.toArray S h' as) (hacc : acc.toList = as.map Value.ref) :
    ∃ H' : Hp, (∀ b o, H b = some o → H' b = some o) ∧ H S = none ∧ (∀ t ∈ as, H t = none) ∧ S ∉ as ∧ H' S = some (.lst (as.map V.ref)) ∧
      (∀ (j : Nat) (t : Addr) (x y : V), as[j]? = some t → xs[j]? = some x → ys[j]? = some y → ∃ o : Obj, o.dict = none ∧ H' t = some (HO.th o [x, y])) ∧ Inv X pins σ H' { s with heap := h', toks := tk } := by
  have lx := rx.length
  have ly := ry.length
  have hSn : S ∉ as := fun z => Nat.lt_irrefl _ (G.above _ z)
  have nd : as.Nodup := List.Pairwise.imp (fun {a b} (h : a < b) => Nat.ne_of_lt h) G.rise
  have new : ∀ t ∈ as, H t = none := fun t ht => I.hok.fresh (Nat.le_trans hSs (Nat.le_of_lt (G.above t ht)))
  have newS : H S = none := I.hok.fresh hSs
  have eS : zlay H S as xs ys us vs S = some (.lst (as.map V.ref)) := by unfold zlay; rw [if_pos rfl]
  have off : ∀ b, b ∉ as → b ≠ S → zlay H S as xs ys us vs b = H b := fun b h1 h2 => by unfold zlay; rw [if_neg h2, if_neg h1]
  have low : ∀ b o, s.heap.get? b = some o → b ∉ as ∧ b ≠ S := fun b o e => ⟨fun z => absurd (Heap.lt_size e) (Nat.not_lt.mpr (Nat.le_trans hSs (Nat.le_of_lt (G.above b z)))), Nat.ne_of_lt (Nat.lt_of_lt_of_le (Heap.lt_size e) hSs)⟩
  have kp : ∀ b u, H b = some u → zlay H S as xs ys us vs b = some u := fun b u e => by
    rw [off b (fun z => by rw [new b z] at e; cases e) (fun z => by rw [z, newS] at e; cases e)]
    exact e
  have atP : ∀ (j : Nat) (t : Addr), as[j]? = some t → zlay H S as xs ys us vs t = some (HO.th (pairObj (us.getD j .none) (vs.getD j .none)) [xs.getD j .non, ys.getD j .non]) := fun j t e => by
    have hm : t ∈ as := List.mem_of_getElem? e
    unfold zlay
    rw [if_neg (fun z : t = S => hSn (by rw [← z]; exact hm)), if_pos hm, idx_nd nd e]
  refine ⟨zlay H S as xs ys us vs, kp, newS, new, hSn, eS, fun j t x y e1 e2 e3 => ⟨pairObj (us.getD j .none) (vs.getD j .none), rfl, ?_⟩, ?_⟩
  · rw [atP j t e1]
    simp [e2, e3]
  · refine I.call' (ch := []) rfl ⟨fun b o q _ _ _ => hk b o q, fun b o q _ _ _ => ⟨o.slots, hk b o q⟩, fun b o q n _ => ?_, fun b o q _ => ⟨o, hk b o q⟩, fun b _ q => kp b _ q, fun b _ _ q => kp b _ q, fun b _ q => ⟨#[], by rw [kp b _ q]; simp⟩⟩ (fun b u q => ?_) I.bare fun b z => by simp at z
    · obtain ⟨z1, z2⟩ := low b o q
      rw [off b z1 z2]; exact n
    · by_cases hb : b ∈ as
      · obtain ⟨j, e1⟩ := List.mem_iff_getElem?.mp hb
        rw [atP j b e1] at q
        cases q
        obtain ⟨x, y, f1, f2, f3⟩ := G.pairs j b e1
        have f1' : us[j]? = some x := by simpa using f1
        have f2' : vs[j]? = some y := by simpa using f2
        have hj : j < us.length := (List.getElem?_eq_some_iff.mp f1').1
        obtain ⟨u1, g1, r1⟩ := rx.get (i := j) (x := xs[j]'(by omega)) (List.getElem?_eq_getElem (by omega))
        obtain ⟨u2, g2, r2⟩ := ry.get (i := j) (x := ys[j]'(by omega)) (List.getElem?_eq_getElem (by omega))
        rw [f1'] at g1; cases g1
        rw [f2'] at g2; cases g2
        have ex : xs.getD j .non = xs[j]'(by omega) := by simp [show j < xs.length by omega]
        have ey : ys.getD j .non = ys[j]'(by omega) := by simp [show j < ys.length by omega]
        have eo : pairObj (us.getD j .none) (vs.getD j .none) = pairObj x y := by simp [f1', f2']
        rw [ex, ey, eo]
        exact ⟨f3, by show 2 ≤ sizeLine; decide, [x, y], .cons r1 (.cons r2 .nil), ⟨_, f3, rfl, _, rfl⟩⟩
      · by_cases hb2 : b = S
        · rw [hb2] at q ⊢
          rw [eS] at q
          cases q
          refine ⟨by rw [List.length_map]; omega, acc.toList, c, by rw [hacc]; exact LiI.vals_refs as, ?_⟩
          rw [Array.toArray_toList]
          exact hS
        · rw [off b hb hb2] at q
          exact (I.hok b u q).stay (fun d v _ y => hk d v y) (fun d y => kp d _ y) fun d _ y => kp d _ y
def tListZip (K : PySem.W.Frag) (ta : TA) : TE := fun σ H Q => ta σ H fun vs H1 => ∃ (a b : Addr) (xs ys : List V), vs = [.ref a, .ref b] ∧ xs.length = ys.length ∧ ((SqL K H1 a xs ∧ SqL K H1 b ys) ∨ (SqT K H1 a xs ∧ SqT K H1 b ys)) ∧
  ∀ (H' : Hp) (p : Addr) (ts : List Addr), (∀ c o, H1 c = some o → H' c = some o) → H1 p = none → (∀ t ∈ ts, H1 t = none) → p ∉ ts → H' p = some (.lst (ts.map V.ref)) → ts.length = xs.length → (∀ (j : Nat) (t : Addr) (x y : V), ts[j]? = some t → xs[j]? = some x → ys[j]? = some y → ∃ o : Obj, o.dict = none ∧ H' t = some (HO.th o [x, y])) → Q (.ref p) H'
theorem pe_listZip {e e2 : Expr} {ta : TA} {p p2 q pos : Pos} (hc : X.calm = true) (hg : Gl X "list") (hm : X.mg "list" = none) (hg2 : Gl X "zip") (hm2 : X.mg "zip" = none) (ha : PA X [e, e2] ta)
    (hs : starEach [e, e2] X.env = (false, eval e X.env) :: starEach [e2] X.env := by rfl) (hpl : (backTo q (starEach [e2] X.env)).any (·.1) = false := by rfl)
    (na : starEach [.Call (.Name "zip" p2) [e, e2] [] q] X.env = (false, eval (.Call (.Name "zip" p2) [e, e2] [] q) X.env) :: starEach [] X.env := by rfl) :
    PE X (.Call (.Name "list" p) [.Call (.Name "zip" p2) [e, e2] [] q] [] pos) (tListZip X.K ta) := by
  refine ⟨fun pins s σ H Q I h => ?_⟩
  refine Call_ (ld_blt I hg hm bb_list ?_)
  refine PyProof.Rows.callWith_type1 (PyProof.Rows.args_cons ?_ na) na rfl
  refine Call_ (ld_blt I hg2 hm2 PyProof.Rows.boot_zip (PyProof.Rows.callWith_type1 (thn (ha.run q pins s σ H _ I h) fun us s1 ⟨vs, H1, I1, r1, q1⟩ => ?_) hs hpl))
  obtain ⟨a, b, xs, ys, ev, hxy, hq, q1⟩ := q1
  subst ev
  cases r1 with
  | cons r rr =>
    cases rr with
    | cons r' rr =>
      cases rr
      cases r
      cases r'
      have go : ∀ (t : Bool) (its its2 : List Value), Vals xs its → Vals ys its2 → xs.length ≤ sizeLine → a < s1.heap.objs.size → b < s1.heap.objs.size → (∀ h' : Heap, (∀ c o, s1.heap.get? c = some o → h'.get? c = some o) → (IsPair h' (s1.heap.objs.size + 2) (.ref s1.heap.objs.size) (.ref (s1.heap.objs.size + 1))) →
          IsZip h' (s1.heap.objs.size + 4) (s1.heap.objs.size + 2) (s1.heap.objs.size + 3) .none → (∃ x y, IsPair h' (s1.heap.objs.size + 3) x y) → ZSrc t h' s1.heap.objs.size a 0 its.toArray → ZSrc t h' (s1.heap.objs.size + 1) b 0 its2.toArray → h'.objs.size = s1.heap.objs.size + 5 →
          wpAny (model X.prog X.w) X.A (spliced (backTo pos (starEach [] X.env))) (fun vs s2 => wpAny (model X.prog X.w) X.A (call (.type "list") (Value.ref (s1.heap.objs.size + 4) :: vs)) (EP X pins σ Q) X.xe s2) X.xe { s1 with heap := h' }) := by
        intro t its its2 rv rv2 hz hla hlb h' hk hTI hzp hTO st1 st2 hsz
        refine PyProof.Rows.args_nil ?_
        have I2 : Inv X pins σ H1 { s1 with heap := h' } := I1.kept (t' := s1.toks) hk
        have l1 := rv.length
        have l2 := rv2.length
        have F : ZFar (s1.heap.objs.size + 4) (s1.heap.objs.size + 2) (s1.heap.objs.size + 3) s1.heap.objs.size (s1.heap.objs.size + 1) a b h'.objs.size := ⟨by rw [hsz]; exact Nat.lt_succ_self _, by rw [hsz]; exact Nat.add_lt_add_left (by decide) _, by rw [hsz]; exact Nat.add_lt_add_left (by decide) _, by rw [hsz]; exact Nat.lt_add_of_pos_right (by decide), by rw [hsz]; exact Nat.add_lt_add_left (by decide) _, by rw [hsz]; exact Nat.lt_of_lt_of_le hla (Nat.le_add_right _ _), by rw [hsz]; exact Nat.lt_of_lt_of_le hlb (Nat.le_add_right _ _)⟩
        refine zl_call (s := { s1 with heap := h' }) (B := s1.heap.objs.size) (n := its.length) (I1.ok.hd hc) (PySem.W.ktu_apart s1.heap.objs.size a b hla hlb) F (Nat.le_add_right _ _) (Nat.le_add_right _ _) (Nat.le_refl _) (Nat.le_add_right _ _) (Nat.le_of_lt F.i1) (by simp) (by simp; omega) (by omega) hzp hTI hTO st1 st2 fun g tk acc c as kp hS hl G hacc => ?_
        obtain ⟨H', k1, k2, k3, k4, k5, k6, J⟩ := zl_laid (tk := tk) (S := h'.objs.size) (by rw [hsz]; exact Nat.le_add_right _ _) I1 rv rv2 hxy hz (fun c o e => kp c o (Heap.lt_size e) (hk c o e)) hS hl G hacc
        exact ⟨.ref _, H', J, rfl, q1 H' _ as k1 k2 k3 k4 k5 (by rw [hl]; exact l1.symm) k6⟩
      rcases hq with ⟨hqx, hqy⟩ | ⟨hqx, hqy⟩
      · obtain ⟨its, rv, p1, hz⟩ := I1.list hqx
        obtain ⟨its2, rv2, p2', _⟩ := I1.list hqy
        refine call_zip_2 p1.isList p2'.isList fun h' hzp hTI hTO h1 h2 hsz hk => ?_
        exact go false its its2 rv rv2 hz p1.lt p2'.lt h' hk hTI hzp ⟨_, _, hTO⟩ ⟨h1, p1.isList.at fun o e => hk _ o e⟩ ⟨h2, p2'.isList.at fun o e => hk _ o e⟩ hsz
      · obtain ⟨its, rv, p1, hz⟩ := I1.tuple hqx
        obtain ⟨its2, rv2, p2', _⟩ := I1.tuple hqy
        obtain ⟨o1, ho1, _⟩ := id p1
        obtain ⟨o2, ho2, _⟩ := id p2'
        have t1 : s1.heap.IsTuple a its.toArray := p1
        have t2 : s1.heap.IsTuple b its2.toArray := p2'
        refine RZ.call_zipT t1 t2 fun h' hzp hTI hTO h1 h2 hsz hk => ?_
        exact go true its its2 rv rv2 hz (Heap.lt_size ho1) (Heap.lt_size ho2) h' hk hTI hzp ⟨_, _, hTO⟩ ⟨h1, t1.at fun o e => hk _ o e⟩ ⟨h2, t2.at fun o e => hk _ o e⟩ hsz
end
/-! ### over values -/
@[simp] def gLstZ : List D → (D → Prop) → Prop
  | [.py (.list xs), .py (.list ys)], Q => xs.length = ys.length ∧ Q (.py (.list (zip2P xs ys)))
  | [.py (.tuple xs), .py (.tuple ys)], Q => xs.length = ys.length ∧ Q (.py (.list (zip2P xs ys)))
  | _, _ => False
theorem rqs_zip {Z : Addr → Prop} {H : Hp} : ∀ {ts : List Addr} {xs ys : List V} {dxs dys : List PyData}, ts.length = xs.length → xs.length = ys.length → Rqs Z H xs dxs → Rqs Z H ys dys → (∀ t ∈ ts, ¬ Z t) →
    (∀ (j : Nat) (t : Addr) (x y : V), ts[j]? = some t → xs[j]? = some x → ys[j]? = some y → ∃ o : Obj, o.dict = none ∧ H t = some (HO.th o [x, y])) → Rqs Z H (ts.map V.ref) (zip2P dxs dys)
  | [], [], [], _, _, _, _, .nil, .nil, _, _ => .nil
  | t :: ts, x :: xs, y :: ys, _, _, h1, h2, .cons r1 t1, .cons r2 t2, hz, h => by
    obtain ⟨o, ho, e⟩ := h 0 t x y rfl rfl rfl
    refine .cons (.tup e ho (hz t List.mem_cons_self) (.cons r1 (.cons r2 .nil))) ?_
    exact rqs_zip (by simpa using h1) (by simpa using h2) t1 t2 (fun t' ht => hz t' (List.mem_cons_of_mem _ ht)) fun j t' x' y' e1 e2 e3 => h (j + 1) t' x' y' (by simpa using e1) (by simpa using e2) (by simpa using e3)
theorem vn_lstZ {X : Cx} {b : Bg} {W : WX} {e e2 : Expr} {u : VA} {p p2 q pos : Pos} (hc : X.calm = true) (hg : Gl X "list") (hm : X.mg "list" = none) (hg2 : Gl X "zip") (hm2 : X.mg "zip" = none) (ha : VAs X b W [e, e2] u)
    (hs : starEach [e, e2] X.env = (false, eval e X.env) :: starEach [e2] X.env := by rfl) (hpl : (backTo q (starEach [e2] X.env)).any (·.1) = false := by rfl)
    (na : starEach [.Call (.Name "zip" p2) [e, e2] [] q] X.env = (false, eval (.Call (.Name "zip" p2) [e, e2] [] q) X.env) :: starEach [] X.env := by rfl) :
    VN X b W (.Call (.Name "list" p) [.Call (.Name "zip" p2) [e, e2] [] q] [] pos) (vCal gLstZ u) :=
  pe_mono (pe_listZip hc hg hm hg2 hm2 ha hs hpl na) fun σ H Q ⟨Zo, Z, ρ, Qd, Ed, v, qq, l, m⟩ => ⟨Zo, Z, ρ, _, Ed, v, qq, fun vs H1 ds x1 g1 r1 q1 => by
    have v1 := v.ex x1 g1
    have fin : ∀ (a a2 : Addr) (xs ys : List V) (dxs dys : List PyData), vs = [.ref a, .ref a2] → ((SqL X.K H1 a xs ∧ SqL X.K H1 a2 ys) ∨ (SqT X.K H1 a xs ∧ SqT X.K H1 a2 ys)) → Rqs Z H1 xs dxs → Rqs Z H1 ys dys → dxs.length = dys.length → Qd (.py (.list (zip2P dxs dys))) →
        ∃ (a b : Addr) (xs ys : List V), vs = [.ref a, .ref b] ∧ xs.length = ys.length ∧ ((SqL X.K H1 a xs ∧ SqL X.K H1 b ys) ∨ (SqT X.K H1 a xs ∧ SqT X.K H1 b ys)) ∧
          ∀ (H' : Hp) (p : Addr) (ts : List Addr), (∀ c o, H1 c = some o → H' c = some o) → H1 p = none → (∀ t ∈ ts, H1 t = none) → p ∉ ts → H' p = some (.lst (ts.map V.ref)) → ts.length = xs.length → (∀ (j : Nat) (t : Addr) (x y : V), ts[j]? = some t → xs[j]? = some x → ys[j]? = some y → ∃ o : Obj, o.dict = none ∧ H' t = some (HO.th o [x, y])) → Q (.ref p) H' := by
      intro a a2 xs ys dxs dys ev hq rx ry hl q2
      refine ⟨a, a2, xs, ys, ev, by rw [rx.length, ry.length]; exact hl, hq, fun H' pp ts k1 k2 k3 k4 k5 k6 k7 => ?_⟩
      have x2 : Ex b H1 H' := fun c o e _ => k1 c o e
      have g2 : b.G H' := b.loc H1 H' (fun c hb => by
        cases e : H1 c with
        | none => exact absurd e (b.dom H1 c g1 hb)
        | some o => exact k1 c o e) (fun c o _ e => k1 c o e) g1
      have hz : ∀ c, (Z c ∨ c = pp) → Z c ∨ H1 c = none := fun c z => z.imp id fun e => by rw [e]; exact k2
      refine l _ H' (.py (.list (zip2P dxs dys))) (x1.trans x2) g2 ⟨pp, rfl, none_back g1 x1 pp k2, ts.map V.ref, k5, ?_⟩ q2
      exact rqs_zip k6 (by rw [rx.length, ry.length]; exact hl) (rx.mono hz fun c o e _ => k1 c o e) (ry.mono hz fun c o e _ => k1 c o e) (fun t ht z => z.elim (v1.fresh (k3 t ht)) fun e => k4 (by rw [← e]; exact ht)) k7
    match ds, q1, r1 with
    | [.py (.list dxs), .py (.list dys)], ⟨hl, q2⟩, .cons ra (.cons rb .nil) =>
      have ra : Rq Z H1 _ (.list dxs) := ra
      have rb : Rq Z H1 _ (.list dys) := rb
      cases ra with
      | lst ea na ra =>
        cases rb with
        | lst eb nb rb => exact fin _ _ _ _ _ _ rfl (.inl ⟨SqL.of ea, SqL.of eb⟩) ra rb hl q2
    | [.py (.tuple dxs), .py (.tuple dys)], ⟨hl, q2⟩, .cons ra (.cons rb .nil) =>
      have ra : Rq Z H1 _ (.tuple dxs) := ra
      have rb : Rq Z H1 _ (.tuple dys) := rb
      cases ra with
      | tup ea da na ra =>
        cases rb with
        | tup eb db nb rb => exact fin _ _ _ _ _ _ rfl (.inr ⟨SqT.th ea, SqT.th eb⟩) ra rb hl q2, m⟩
end VL
set_option Elab.async false
set_option linter.all false
set_option maxRecDepth 100000
set_option maxHeartbeats 4000000
/-! VL80: a comprehension over a dict that stands still meanwhile -/
namespace VL
open PySem PySem.Spec PyProof.Rows L2
/-- the pairs of a locked dict, their objects known -/
def ItD (d : Addr) (o : Obj) (kvs : List (Key × V)) : It :=
  ⟨fun n H => H d = some (.frz o (.dK kvs)) ∧ n < kvs.length, fun n H x H' => ∃ (T : Addr) (oT : Obj) (k : Key) (v : V), kvs[n]? = some (k, v) ∧ x = .ref T ∧ H T = none ∧ oT.dict = none ∧ H' = upd H T (HO.th oT [kV k, v]), fun n H => H d = some (.frz o (.dK kvs)) ∧ kvs.length ≤ n⟩
theorem turn_itD {P : Program} {w : World} {K : PySem.W.Frag} {d : Addr} {o : Obj} {es : Array DictEntry} {ep : Nat} {kvs : List (Key × V)} {tgs : List Expr} {n0 : Nat} {tp : Pos} (I0 : Addr) (ed : o.data = .dict es ep) :
    Turn P w K (.Tuple tgs n0 tp) (ItD d o kvs) [I0] I0 (fun n h => ∃ a1 a2, IsItemIter h I0 d n kvs.length ep a1 a2) where
  mem := List.mem_singleton.mpr rfl
  obj := fun n h ⟨a1, a2, e⟩ b hb => by
    rw [List.mem_singleton.mp hb]
    exact ⟨_, e, fun v z => nomatch z⟩
  keep := fun n h h' ⟨a1, a2, e⟩ kp => ⟨a1, a2, kp I0 (List.mem_singleton.mpr rfl) _ e⟩
  item := by
    rintro X rfl rfl rfl hc n pins s σ H E J hf ⟨a1, a2, he⟩ ⟨hd, hn⟩
    obtain ⟨_, _, _, es2, ep2, vs, ed2, _, kv, hm⟩ := J.frzK hd
    obtain ⟨rfl, rfl⟩ := dict_ep ed ed2
    obtain ⟨k, v, hkv⟩ : ∃ k v, kvs[n]? = some (k, v) := ⟨_, _, List.getElem?_eq_getElem hn⟩
    obtain ⟨u, hu, ru⟩ := kv_get kv hkv
    have el : kvs.length = vs.length := Paired.length kv
    rw [el] at he
    have lt := Heap.lt_size he
    refine wpAny_pyNext_items_item he hm hu fun key g hkey hI hT hsz hk => ⟨_, rfl, wpAny_letOwnedTupleGo_items (s := { s with heap := g }) hI fun g2 hI2 sb => ?_⟩
    have hT2 := (sb.2 s.heap.objs.size (Nat.ne_of_gt lt)).trans hT
    have J1 : Inv X pins σ (upd H s.heap.objs.size (HO.th (tob [key, u]) [kV k, v])) { s with heap := g2 } :=
      J.turnedNew (t' := s.toks) (ch := [I0]) (fun b ob hb e => (sb.2 b (by simpa using hb)).trans (hk b ob (by simpa using hb) e)) hf (Nat.le_refl _) (th_ok (by show 2 ≤ sizeLine; decide) (.cons (relV_key (show keyIs k key = true from hkey)) (.cons ru .nil)) hT2)
    refine ⟨.ref s.heap.objs.size, _, J1, rfl, ⟨_, _, k, v, hkv, rfl, J.hok.fresh (Nat.le_refl _), rfl, rfl⟩, ⟨key, u, by rw [el]; exact hI2⟩, fun b hb => ?_⟩
    rw [List.mem_singleton.mp hb, upd_ne (Nat.ne_of_lt lt)]
    exact (hf I0 (List.mem_singleton.mpr rfl)).1
  done := by
    rintro X rfl rfl rfl hc n pins s σ H E J hf ⟨a1, a2, he⟩ ⟨hd, hn⟩
    obtain ⟨f0, f1, f2, f3, f4, f5⟩ := hf I0 (List.mem_singleton.mpr rfl)
    obtain ⟨_, _, _, es2, ep2, vs, ed2, _, kv, hm⟩ := J.frzK hd
    obtain ⟨rfl, rfl⟩ := dict_ep ed ed2
    have el : kvs.length = vs.length := Paired.length kv
    rw [el] at he
    exact wpAny_pyNext_items_end (J.ok.hd hc) he hm (List.getElem?_eq_none (by omega)) fun g eb => ⟨rfl, J.turned (t' := s.toks) (fun b ob hb e => eb b ob hb e) f0 f1 f3 f4 f5⟩
  self := fun A n s Q E ⟨_, _, e⟩ h => PySem.W.kcp_self e h
def iItD (td : TE) : TI := fun σ H R => td σ H fun x H1 => ∃ (d : Addr) (o : Obj) (kvs : List (Key × V)), x = .ref d ∧ H1 d = some (.frz o (.dK kvs)) ∧ R (ItD d o kvs) H1
theorem pi_itD {X : Cx} {e : Expr} {td : TE} {ap cp tp : Pos} {tgs : List Expr} {n0 : Nat} (he : PE X e td) (hb : attributeBase e "items" X.env (eval e X.env) = eval e X.env := by rfl) (hl : (ap.endLine == cp.line) = true := by rfl) :
    PI X (.Tuple tgs n0 tp) (.Call (.Attribute e "items" ap) [] [] cp) (iItD td) := by
  refine ⟨fun pins s σ H R I h => ?_⟩
  refine wpAny_Call_method (id := "dict.items") (T := "dict") hb rfl hl PySem.F.plainAttrs_dict PySem.F.slot_dict_items PySem.F.type_dict_items (thn (he.run pins s σ H _ I h) fun u s1 ⟨x, H1, I1, rx, d, o, kvs, ex, hd, q⟩ => ?_)
  subst ex
  cases rx
  obtain ⟨y1, _, _, es, ep, vs, ed, _, kv, hm⟩ := I1.frzK hd
  have el : kvs.length = vs.length := Paired.length kv
  refine ⟨hm.dictOf.typeIs, hm.dictOf.mapOf.noDict, ?_⟩
  have I2 : Inv X pins σ H1 { s1 with heap := s1.heap.push { cls := .type "dict_items", data := .fields #[.ref d] } } := I1.kept (t' := s1.toks) fun b ob z => Heap.get?_push_of_some _ z
  have go : wpAny (model X.prog X.w) X.A (pyIter (.ref s1.heap.objs.size)) (PIE X pins σ (.Tuple tgs n0 tp) R) X.xe { s1 with heap := s1.heap.push { cls := .type "dict_items", data := .fields #[.ref d] } } := by
    refine wpAny_pyIter_items (knd := mixKind X.prog X.w) (d := d) ⟨_, Heap.get?_push_size _ rfl, rfl, rfl⟩ (hm.push _) (pi_one (tk := s1.toks) I2 _ (turn_itD _ ed) ⟨.none, .none, ?_⟩ q)
    rw [el]
    exact Heap.get?_push_size _ rfl
  show wpAny _ _ (callWith cp (.builtin "dict.items") [.ref d] [] []) _ X.xe s1
  exact method_meetsIn PySem.F.slot_dict_items PySem.F.entry_dict_items rfl (PySem.evalArgs_none ⟨rfl, hm.dictOf.typeIs, PySem.F.args_dict_items_1 _, _, meets_dict_items (mixKind X.prog X.w) d y1, ⟨vs, hm.dictOf⟩, go⟩)
end VL
set_option Elab.async false
set_option linter.all false
set_option maxRecDepth 100000
set_option maxHeartbeats 4000000
/-! VL81: [.. for k, v in d.items()], [.. for k in d], d a shared dict of plain values -/
namespace VL
open PySem PySem.Spec PyProof.Rows L2
@[simp] def leafB : PyData → Bool
  | .list _ => false
  | .tuple _ => false
  | .dict _ => false
  | _ => true
theorem Rq.leaf {Z Z' : Addr → Prop} {H H' : Hp} {v : V} {p : PyData} (h : leafB p = true) (r : Rq Z H v p) : Rq Z' H' v p := by
  cases p with
  | list _ => cases h
  | tuple _ => cases h
  | dict _ => cases h
  | none => cases r; exact .non
  | bool k => cases r; exact .bl k
  | int i => cases r; exact .int i
  | str x => cases r; exact .str x
theorem Rqk.leaf {Z Z' : Addr → Prop} {H H' : Hp} : ∀ {kvs : List (Key × V)} {ds : List (PyData × PyData)}, (∀ p ∈ ds, leafB p.2 = true) → Rqk Z H kvs ds → Rqk Z' H' kvs ds
  | _, _, _, .nil => .nil
  | _, _, h, .cons r t => .cons (Rq.leaf (h _ List.mem_cons_self) r) (Rqk.leaf (fun p hp => h p (List.mem_cons_of_mem _ hp)) t)
theorem Rqk.at {Z : Addr → Prop} {H : Hp} : ∀ {kvs : List (Key × V)} {ds : List (PyData × PyData)} {n : Nat} {k : Key} {v : V}, Rqk Z H kvs ds → kvs[n]? = some (k, v) → ∃ p, ds[n]? = some (kD k, p) ∧ Rq Z H v p
  | _, _, _, _, _, .nil, e => by simp at e
  | _, _, 0, _, _, .cons r _, e => by simp at e; obtain ⟨rfl, rfl⟩ := e; exact ⟨_, rfl, r⟩
  | _, _, n + 1, _, _, .cons _ t, e => by
    obtain ⟨p, h1, h2⟩ := Rqk.at (n := n) t (by simpa using e)
    exact ⟨p, by simpa using h1, h2⟩
theorem rq_key {Z : Addr → Prop} {H : Hp} (k : Key) : Rq Z H (kV k) (kD k) := by
  cases k with
  | inl i => exact .int i
  | inr x => exact .str x
/-- a dict that is locked -/
def dF (ds : List (PyData × PyData)) : Abs where
  R := fun Z H a => ∃ o kvs, H a = some (.frz o (.dK kvs)) ∧ Rqk Z H kvs ds ∧ ∀ p ∈ ds, leafB p.2 = true
  at_ := fun ⟨o, kvs, h, _⟩ => ⟨_, h⟩
  noext := fun ⟨o, kvs, h, _⟩ u hu e => by rw [h] at e; cases e; exact hu
  mono := fun hz hs ha ⟨o, kvs, h, r, l⟩ => ⟨o, kvs, ha _ h, r.mono hz hs, l⟩
def itemsP (ds : List (PyData × PyData)) : List PyData := ds.map fun p => .tuple [p.1, p.2]
@[simp] def iIt (j : Nat) : VIt := fun ρ Q _ => ∃ ds, ρ[j]? = some (.shr (.abs (dF ds))) ∧ Q ((itemsP ds).map D.py)
@[simp] def iKy (j : Nat) : VIt := fun ρ Q _ => ∃ ds, ρ[j]? = some (.shr (.abs (dF ds))) ∧ Q ((ds.map fun p => p.1).map D.py)
section
variable {b : Bg} {Y Z : Addr → Prop} {H : Hp} {d : Addr} {o : Obj} {kvs : List (Key × V)} {ds : List (PyData × PyData)}
theorem wk_itD (hd : H d = some (.frz o (.dK kvs))) (nY : ¬ Y d) (r : Rqk Z H kvs ds) (hl : ∀ p ∈ ds, leafB p.2 = true) : Wk b Y Z H (ItD d o kvs) ((itemsP ds).map D.py) where
  go := fun n dd H2 e h2 g => by
    unfold itemsP at e
    rw [List.map_map, List.getElem?_map] at e
    cases e2 : ds[n]? with
    | none => rw [e2] at e; cases e
    | some p =>
      rw [e2] at e; cases e
      have hn : n < kvs.length := by rw [r.length]; exact (List.getElem?_eq_some_iff.mp e2).1
      refine ⟨⟨h2 _ _ hd nY, hn⟩, fun v H3 ⟨T, oT, k, v0, hk, ev, hT, ho, eH⟩ => ?_⟩
      subst ev eH
      obtain ⟨p2, e3, r2⟩ := r.at hk
      obtain rfl : p = (kD k, p2) := Option.some.inj (e2.symm.trans e3)
      exact ⟨Ex.new hT, Bg.new g hT, fun Z2 hz h3 => Rq.new2 hT ho h3 (.cons (rq_key k) (.cons (Rq.leaf (hl _ (List.mem_of_getElem? e2)) r2) .nil))⟩
  stop := fun n H2 e h2 => ⟨h2 _ _ hd nY, by rw [r.length, ← e]; simp [itemsP]⟩
end
section
variable {X : Cx} {b : Bg} {W : WX} {e f : Expr} {j : Nat} {ty : VT} {ap cp tp pos : Pos} {tgs : List Expr} {n0 : Nat} {tg : Expr}
theorem vib_items (he : PE X e (tVar j)) (hb : attributeBase e "items" X.env (eval e X.env) = eval e X.env := by rfl) (hl : (ap.endLine == cp.line) = true := by rfl) : VIb X b W (.Tuple tgs n0 tp) (.Call (.Attribute e "items" ap) [] [] cp) (iIt j) :=
  pi_mono (pi_itD he hb hl) fun σ H R ⟨Zo, Z, ρ, Qd, Ed, v, ⟨ds, ej, q⟩, l, m⟩ => by
    obtain ⟨u, hu, a, eu, nz, o, kvs, hH, r, hl⟩ := v.shr j _ ej
    subst eu
    exact ⟨.ref a, hu, a, o, kvs, rfl, hH, l _ H _ Ex.refl v.g (wk_itD hH (v.nb nz) r hl) q⟩
/-- d[k] of the locked dict -/
@[simp] def vDIxF (j : Nat) (ty : VT) : VT := fun ρ Q E => ∃ ds, ρ[j]? = some (.shr (.abs (dF ds))) ∧ ty ρ (fun y => ∃ k kk x, y = .py k ∧ keyOf k = some kk ∧ getD ds kk = some x ∧ Q (.py x)) E
end
end VL
set_option Elab.async false
set_option linter.all false
set_option maxRecDepth 100000
set_option maxHeartbeats 4000000
/-! VL82: a dict is locked while an expression that makes something new is evaluated -/
namespace VL
open PySem PySem.Spec PyProof.Rows L2
@[simp] def flatS : Slot → Slot
  | .shr (.py p) => if leafB p = true then .shr (.py p) else .un
  | .shr (.raw v) => .shr (.raw v)
  | _ => .un
@[simp] def flatE (ds : List (PyData × PyData)) : Nat → VEnv → VEnv
  | _, [] => []
  | 0, _ :: r => .shr (.abs (dF ds)) :: r.map flatS
  | j + 1, s :: r => flatS s :: flatE ds j r
theorem flatE_len {ds : List (PyData × PyData)} : ∀ {j : Nat} {ρ : VEnv}, (flatE ds j ρ).length = ρ.length
  | _, [] => by simp
  | 0, _ :: r => by simp
  | j + 1, s :: r => by simp [flatE_len (ds := ds) (j := j) (ρ := r)]
theorem flatE_at {ds : List (PyData × PyData)} : ∀ {j : Nat} {ρ : VEnv} {i : Nat} {s : Slot}, (flatE ds j ρ)[i]? = some s → (i = j ∧ s = .shr (.abs (dF ds))) ∨ ∃ s0, ρ[i]? = some s0 ∧ s = flatS s0
  | _, [], i, s, e => by simp at e
  | 0, _ :: r, 0, s, e => .inl ⟨rfl, (Option.some.inj e).symm⟩
  | 0, s1 :: r, i + 1, s, e => by
    simp only [flatE, List.getElem?_cons_succ, List.getElem?_map] at e ⊢
    cases h : r[i]? with
    | none => rw [h] at e; cases e
    | some s0 => rw [h] at e; exact .inr ⟨s0, rfl, (Option.some.inj e).symm⟩
  | j + 1, s1 :: r, 0, s, e => .inr ⟨s1, rfl, (Option.some.inj e).symm⟩
  | j + 1, s1 :: r, i + 1, s, e => by
    have e : (flatE ds j r)[i]? = some s := e
    rcases flatE_at e with ⟨h1, h2⟩ | ⟨s0, h1, h2⟩
    · exact .inl ⟨by omega, h2⟩
    · exact .inr ⟨s0, by simpa using h1, h2⟩
theorem flatS_shr {s0 : Slot} {d : D} (h : flatS s0 = .shr d) : s0 = .shr d ∧ ((∃ p, d = .py p ∧ leafB p = true) ∨ ∃ v, d = .raw v) := by
  cases s0 with
  | un => cases h
  | own d0 => cases h
  | shr d0 =>
    cases d0 with
    | py p =>
      have h : (if leafB p = true then Slot.shr (.py p) else .un) = .shr d := h
      by_cases c : leafB p = true
      · rw [if_pos c] at h; cases h; exact ⟨rfl, .inl ⟨p, rfl, c⟩⟩
      · rw [if_neg c] at h; cases h
    | raw v => cases h; exact ⟨rfl, .inr ⟨v, rfl⟩⟩
    | obj a n fs => cases h
    | err a x n fs => cases h
    | abs A => cases h
theorem flatS_own {s0 : Slot} {d : D} : flatS s0 ≠ .own d := fun h => by
  cases s0 with
  | un => cases h
  | own d0 => cases h
  | shr d0 =>
    cases d0 with
    | py p =>
      have h : (if leafB p = true then Slot.shr (.py p) else .un) = .own d := h
      by_cases c : leafB p = true
      · rw [if_pos c] at h; cases h
      · rw [if_neg c] at h; cases h
    | raw v => cases h
    | obj a n fs => cases h
    | err a x n fs => cases h
    | abs A => cases h
section
variable {Z : Addr → Prop} {H : Hp} {d : Addr} {od : Obj} {kvs : List (Key × V)} {u : HO}
mutual
/-- what lies in a heap with a locked dict does not reach it -/
theorem Rq.unl (hd : H d = some (.frz od (.dK kvs))) : ∀ {v : V} {p : PyData}, Rq Z H v p → Rq Z (upd H d u) v p
  | _, _, .non => .non
  | _, _, .bl k => .bl k
  | _, _, .int i => .int i
  | _, _, .str x => .str x
  | _, _, .lst e n r => .lst (by rw [upd_ne (fun z => by rw [z, hd] at e; cases e)]; exact e) n (Rqs.unl hd r)
  | _, _, .tup e h n r => .tup (by rw [upd_ne (fun z => by rw [z, hd] at e; cases e)]; exact e) h n (Rqs.unl hd r)
  | _, _, .dct e n r => .dct (by rw [upd_ne (fun z => by rw [z, hd] at e; cases e)]; exact e) n (Rqk.unl hd r)
theorem Rqs.unl (hd : H d = some (.frz od (.dK kvs))) : ∀ {v : List V} {p : List PyData}, Rqs Z H v p → Rqs Z (upd H d u) v p
  | _, _, .nil => .nil
  | _, _, .cons r t => .cons (Rq.unl hd r) (Rqs.unl hd t)
theorem Rqk.unl (hd : H d = some (.frz od (.dK kvs))) : ∀ {v : List (Key × V)} {p : List (PyData × PyData)}, Rqk Z H v p → Rqk Z (upd H d u) v p
  | _, _, .nil => .nil
  | _, _, .cons r t => .cons (Rq.unl hd r) (Rqk.unl hd t)
end
end
@[simp] def vLock (j : Nat) (t : VT) : VT := fun ρ Q _ => ∃ ds, ρ[j]? = some (.shr (.py (.dict ds))) ∧ (∀ p ∈ ds, leafB p.2 = true) ∧ t (flatE ds j ρ) (fun d => (∃ xs, d = .py (.list xs)) ∧ Q d) noE
theorem vn_lock {X : Cx} {b : Bg} {W : WX} {e : Expr} {t : VT} (j : Nat) (h : VN X b W e t) : VN X b W e (vLock j t) :=
  pe_mono (L2.pe_lock h) fun σ H Q ⟨Zo, Z, ρ, Qd, Ed, v, ⟨ds, ej, lf, q⟩, l, m⟩ => by
    obtain ⟨x, hx, rx⟩ := v.shr j _ ej
    have rx : Rq Z H x (.dict ds) := rx
    cases rx with
    | @dct d kvs _ hd nz rk =>
      have nb := v.nb nz
      refine ⟨d, .dK kvs, hd, trivial, fun od => ?_⟩
      generalize eH : upd H d (.frz od (.dK kvs)) = H1
      have at_ : ∀ c, c ≠ d → H1 c = H c := fun c hc => by rw [← eH, upd_ne hc]
      have atd : H1 d = some (.frz od (.dK kvs)) := by rw [← eH]; exact upd_same
      have g1 : b.G H1 := b.loc H H1 (fun c hc => at_ c fun z => nb (by rw [← z]; exact hc)) (fun c o ho z => by rw [at_ c (fun y => by rw [y, hd] at z; cases z; exact ho)]; exact z) v.g
      have v1 : VOk b Z Z σ H1 (flatE ds j ρ) := by
        refine ⟨g1, fun a z => v.zo a (v.zb a z), fun a z => z, fun a z => ?_, fun a z => .inl z, fun i dd hi => ?_, fun i i2 dd e2 a h1 h2 h3 h4 => ?_, fun i dd hi => ?_, by rw [flatE_len]; exact v.len⟩
        · by_cases y : a = d
          · rw [y, atd]; simp
          · rw [at_ a y]; exact v.dom a z
        · rcases flatE_at hi with ⟨_, h2⟩ | ⟨s0, _, h2⟩
          · cases h2
          · exact absurd h2.symm flatS_own
        · rcases flatE_at h1 with ⟨_, h2⟩ | ⟨s0, _, h2⟩
          · cases h2
          · exact absurd h2.symm flatS_own
        · rcases flatE_at hi with ⟨rfl, h2⟩ | ⟨s0, h1, h2⟩
          · cases h2
            exact ⟨_, hx, d, rfl, nz, od, kvs, atd, Rqk.leaf lf rk, lf⟩
          · obtain ⟨es, hf⟩ := flatS_shr h2.symm
            subst es
            obtain ⟨u, hu, ru⟩ := v.shr i _ h1
            refine ⟨u, hu, ?_⟩
            rcases hf with ⟨p, rfl, hp⟩ | ⟨v0, rfl⟩
            · exact Rq.leaf hp ru
            · exact ru
      refine ⟨Z, Z, flatE ds j ρ, _, _, v1, q, fun y H2 dd x2 g2 r2 ⟨⟨xs, ed⟩, q2⟩ => ?_, fun _ _ _ _ _ _ _ h => h.elim⟩
      subst ed
      have h2d := x2 d _ atd nb
      refine ⟨h2d, l y _ _ (fun a o ha hb => ?_) ?_ ?_ q2⟩
      · by_cases y : a = d
        · subst y; rw [upd_same]; rw [hd] at ha; exact ha
        · rw [upd_ne y]; exact x2 a o (by rw [at_ a y]; exact ha) hb
      · exact b.loc H2 _ (fun c hc => upd_ne fun z => nb (by rw [← z]; exact hc)) (fun c o ho z => by rw [upd_ne (fun y => by rw [y, h2d] at z; cases z; exact ho)]; exact z) g2
      · obtain ⟨a, ea, h0, ys, hy, ry⟩ := r2
        have nad : a ≠ d := fun z => by rw [z, atd] at h0; cases h0
        exact ⟨a, ea, by rw [← at_ a nad]; exact h0, ys, by rw [upd_ne nad]; exact hy, Rqs.unl h2d ry⟩
end VL
set_option Elab.async false
set_option linter.all false
set_option maxRecDepth 100000
set_option maxHeartbeats 4000000
/-! VL83: two fields set from a pair; a dict of one number; a range that counts down -/
namespace VL
open PySem PySem.Spec PyProof.Rows L2
theorem Rqs.pair {Z : Addr → Prop} {H : Hp} {p q : PyData} : ∀ {vs : List V}, Rqs Z H vs [p, q] → ∃ v w, vs = [v, w] ∧ Rq Z H v p ∧ Rq Z H w q
  | _, .cons r1 (.cons r2 .nil) => ⟨_, _, rfl, r1, r2⟩
section
variable {X : Cx} {b : Bg} {W : WX} {e o o2 : Expr} {n f1 f2 : Str} {t : VT} {pos : Pos} {i : Nat}
/-- .f = v where the instance is read by te -/
def fldTg (K : PySem.W.Frag) (te : TE) (f : Str) : TG := fun v σ H Q => te σ H fun x H1 => ∃ a C dx fs, x = .ref a ∧ H1 a = some (.ins C dx fs) ∧ Cls K C ∧ NoAttr K C f ∧ fs.length < 1000 ∧ Q σ (upd H1 a (.ins C dx (putF f v fs)))
theorem pg_fld {te : TE} {f : Str} {pp : Pos} (ho : PE X o te)
    (ha : ∀ v, assign (.Attribute o f pp) X.env v = (do
      let ov ← holding [v] (eval o X.env)
      standAt pp.atName
      holding [v, ov] (setAttr ov f v)
      release [v, ov] []) := by intro _; rfl) : PG X (.Attribute o f pp) (fldTg X.K te f) := by
  refine ⟨fun pins s σ H v u Q I ru h => ?_⟩
  rw [ha]
  refine wpAny_bind (wpAny_holding (thn (ho.run pins s σ H _ I h) fun ov s1 ⟨x, H1, I1, rx, a, C, dx, fs, ex, ea, c, na, hl, q⟩ => ?_))
  subst ex
  obtain rfl : ov = Value.ref a := rx
  refine wpAny_bind (wpAny_standAt (wpAny_bind (wpAny_holding (setattr_ok I1 ea c na hl ru fun s2 I2 => ?_))))
  exact wpAny_release ⟨σ, _, I2, q⟩
@[simp] def sFld2 (i : Nat) (n f1 f2 : Str) (t : VT) : VS := fun ρ De => t ρ (fun d => ∃ p1 p2 a fs, d = .py (.tuple [p1, p2]) ∧ ρ[i]? = some (.own (.obj a n fs)) ∧ fs.length + 1 < 1000 ∧ De.nx (ρ.set i (.own (.obj a n (putFD f2 p2 (putFD f1 p1 fs)))))) (De.ex ρ)
theorem vs_fld2 {kt : Nat} {pp p1 p2 : Pos} (hc : X.calm = true) (c : Cls X.K (b.cls n)) (na1 : NoAttr X.K (b.cls n) f1) (na2 : NoAttr X.K (b.cls n) f2) (ho : PE X o (tVar i)) (ho2 : PE X o2 (tVar i)) (he : VE X b W e t)
    (ha : ∀ v, assign (.Attribute o f1 p1) X.env v = (do
      let ov ← holding [v] (eval o X.env)
      standAt p1.atName
      holding [v, ov] (setAttr ov f1 v)
      release [v, ov] []) := by intro _; rfl)
    (ha2 : ∀ v, assign (.Attribute o2 f2 p2) X.env v = (do
      let ov ← holding [v] (eval o2 X.env)
      standAt p2.atName
      holding [v, ov] (setAttr ov f2 v)
      release [v, ov] []) := by intro _; rfl)
    (hs : swapsWithSole [.Tuple [.Attribute o f1 p1, .Attribute o2 f2 p2] kt pp] e pos.line X.env = pure false := by rfl) (hw : swappedStores [.Tuple [.Attribute o f1 p1, .Attribute o2 f2 p2] kt pp] e X.env = pure none := by rfl)
    (hn : (assignEach [.Attribute o f1 p1, .Attribute o2 f2 p2] X.env).length = 2 := by rfl) (hst : (assignEach [.Attribute o f1 p1, .Attribute o2 f2 p2] X.env).findIdx? (·.1) = none := by rfl)
    (hq1 : (assignEach [.Attribute o f1 p1, .Attribute o2 f2 p2] X.env).map (·.2) = assign (.Attribute o f1 p1) X.env :: (assignEach [.Attribute o2 f2 p2] X.env).map (·.2) := by rfl)
    (hq2 : (assignEach [.Attribute o2 f2 p2] X.env).map (·.2) = assign (.Attribute o2 f2 p2) X.env :: (assignEach [] X.env).map (·.2) := by rfl)
    (h1 : (assignEach [.Tuple [.Attribute o f1 p1, .Attribute o2 f2 p2] kt pp] X.env).map (·.2) = [assign (.Tuple [.Attribute o f1 p1, .Attribute o2 f2 p2] kt pp) X.env] := by rfl) :
    VSt X b W (.Assign [.Tuple [.Attribute o f1 p1, .Attribute o2 f2 p2] kt pp] e pos) (sFld2 i n f1 f2 t) :=
  ps_mono (ps_asg he (pg_tup hc (pgs_cons (pg_fld ho ha) (pgs_cons (pg_fld ho2 ha2) pgs_nil hq2) hq1) hn hst) hs hw h1) fun D σ H ⟨H0, M, Zo, Z, ρ, De, fo, q, l⟩ => ⟨Zo, Z, ρ, _, _, fo.v, q, fun v H' d x g r ⟨q1, q2, a, fs, ed, er, hl, qn⟩ => by
    subst ed
    have f1' := fo.ex x g
    obtain ⟨a0, o0, vs, rfl, hh, ho0, na0, qa⟩ := Rb.tuple (b := b) (.inl r)
    have qa' : Rqs Z H' vs [q1, q2] := by
      first | exact qa | (rcases r with r | r <;> skip)
    obtain ⟨v1, v2, rfl, r1, r2⟩ := Rqs.pair qa'
    obtain ⟨a', g1, g2, g3, ea, dx, xs, g4, g5⟩ := f1'.v.own i _ er
    subst ea
    have hx : xs.length = fs.length := by rw [g5.len]
    refine ⟨a0, _, rfl, SqT.th hh, rfl, _, _, rfl, .ref a', g1, a', b.cls n, dx, xs, rfl, g4, c, na1, by rw [hx]; omega, _, _, rfl, .ref a', g1, a', b.cls n, dx, _, rfl, upd_same, c, na2, ?_, rfl, ?_⟩
    · have := length_putF f1 v1 xs
      omega
    · rw [L2.upd_upd]
      refine l.nx _ _ _ _ (f1'.mut (d' := .obj a' n (putFD f2 q2 (putFD f1 q1 fs))) er g1 ⟨rfl, dx, putF f2 v2 (putF f1 v1 xs), upd_same, ?_⟩) qn
      have up_ : ∀ b2 u, H' b2 = some u → ¬ Z b2 → upd H' a' (.ins (b.cls n) dx (putF f2 v2 (putF f1 v1 xs))) b2 = some u := fun b2 u ee nz => by
        rw [upd_ne (fun w => nz (by rw [w]; exact g2))]
        exact ee
      exact Rqf.put (Rq.mono (fun _ z => .inl z) up_ r2) (Rqf.put (Rq.mono (fun _ z => .inl z) up_ r1) (g5.mono (fun _ z => .inl z) up_)), l.er fo⟩
end
/-! ### a dict of one number -/
@[simp] def vDI (t : VT) (j : Int) : VT := fun ρ Q E => t ρ (fun d => ∃ i, d = .py (.int i) ∧ Q (.py (.dict [(.int i, .int j)]))) E
theorem vn_dictI {X : Cx} {b : Bg} {W : WX} {e : Expr} {t : VT} {j : Int} {m : Nat} {ps pos : Pos} (h : VE X b W e t) : VN X b W (.Dict [some e] [.Constant (.int j) m ps] pos) (vDI t j) :=
  pe_mono (pe_disp (pps_cons h pe_int pps_nil) rfl rfl (by simp) (by show 1 ≤ 15; decide)) fun σ H Q ⟨Zo, Z, ρ, Qd, Ed, v, q, l, m⟩ p hp => by
    have v1 := v.apart hp (o := .dK [])
    have nb : ¬ b.B p := fun z => v.fresh hp (v.zo p (v.zb p z))
    refine ⟨_, _, ρ, _, Ed, v1, q, fun y H1 d x1 g1 r1 ⟨k, ed, q1⟩ => ?_, fun c z H1 er x1 g1 r1 q1 => m c z H1 er ((Ex.new hp).trans x1) g1 ?_ q1⟩
    · subst ed
      obtain rfl : y = .int k := by cases r1; rfl
      have e1 : H1 p = some (.dK []) := x1 p _ upd_same nb
      refine ⟨e1, [(.inl k, .int j)], rfl, (show 1 ≤ 15 by decide), ?_⟩
      have xx : Ex b H (upd H1 p (.dK [(.inl k, .int j)])) := fun a oo e nn => by
        rw [upd_ne (ne_of_none e hp)]
        exact x1 a oo (by rw [upd_ne (ne_of_none e hp)]; exact e) nn
      exact l _ _ (.py (.dict [(.int k, .int j)])) xx (b.loc H1 _ (fun c hc => upd_ne fun e => nb (by rw [← e]; exact hc)) (fun c o ho e => by rw [upd_ne (fun z => by rw [z, e1] at e; cases e; exact ho)]; exact e) g1) ⟨p, rfl, hp, _, upd_same, .cons (k := .inl k) (.int j) .nil⟩ q1
    · obtain ⟨h1, h2⟩ := r1
      refine ⟨h1, h2.imp id ?_⟩
      rintro ⟨a, xs, e1, e2, e3, e4⟩
      exact ⟨a, xs, e1, e2, fun z => e3 (.inl z), e4.mono (fun c z => .inl (.inl z)) fun _ _ e _ => e⟩
/-! ### range(i, j, -1) -/
def rangeD (i : Int) (n : Nat) : List PyData := (List.range n).map fun (k : Nat) => PyData.int (i - k)
@[simp] def asR3 : List D → (List D → Prop) → Prop
  | [.py (.int i), .py (.int j), .py (.int k)], Q => k = -1 ∧ (small62 i ∧ small62 j) ∧ Q ((rangeD i (i - j).toNat).map D.py)
  | _, _ => False
theorem asR3_ex : ∀ {d : List D} {Q : List D → Prop}, asR3 d Q → ∃ i j, d = [.py (.int i), .py (.int j), .py (.int (-1))] ∧ (small62 i ∧ small62 j) ∧ Q ((rangeD i (i - j).toNat).map D.py)
  | [.py (.int i), .py (.int j), .py (.int k)], _, h => by
    obtain ⟨rfl, h⟩ := h
    exact ⟨i, j, rfl, h⟩
@[simp] def iR3 (t : VA) : VIt := fun ρ Q E => t ρ (fun d => asR3 d Q) E
section
variable {X : Cx} {b : Bg} {W : WX} {tg e1 e2 e3 : Expr} {ta : VA} {p pos : Pos} {Y Z : Addr → Prop} {H : Hp}
theorem wk_rangeD {lo : Int} {n : Nat} : Wk b Y Z H (Itc lo (-1) n) ((rangeD lo n).map D.py) where
  go := fun i d H2 hd h2 g => by
    rw [List.getElem?_map, rangeD, List.getElem?_map] at hd
    by_cases hlt : i < n
    · rw [List.getElem?_range hlt] at hd
      cases hd
      refine ⟨hlt, fun v H3 ⟨eH, ev⟩ => ?_⟩
      subst eH ev
      refine ⟨Ex.refl, g, fun Z2 hz h3 => ?_⟩
      rw [show lo + (i : Int) * (-1) = lo - i by omega]
      exact .int _
    · rw [List.getElem?_eq_none (by simpa using Nat.le_of_not_lt hlt)] at hd
      cases hd
  stop := fun i H2 hl h2 => by
    have e : n = i := by rw [← hl]; simp [rangeD]
    rw [e]
    exact Nat.le_refl _
theorem pi_rngD {Yf : (Addr → Prop) → Addr → Prop} (hg : Gl X "range") (hm : X.mg "range" = none) (h : VXs X b W [e1, e2, e3] ta)
    (hs : starEach [e1, e2, e3] X.env = (false, eval e1 X.env) :: starEach [e2, e3] X.env := by rfl) (hpl : (backTo pos (starEach [e2, e3] X.env)).any (·.1) = false := by rfl) :
    PI X tg (.Call (.Name "range" p) [e1, e2, e3] [] pos) (LI b W Yf (iR3 ta)) :=
  pi_mono (L2.pi_range3 hg hm h hs hpl) fun σ H R ⟨Zo, Z, ρ, Qd, Ed, v, q, l, m⟩ =>
    ⟨Zo, Z, ρ, _, Ed, v, q, fun x H1 d x1 g1 r1 hh => by
      obtain ⟨i, j, ed, ⟨⟨i1, i2⟩, j1, j2⟩, q1⟩ := asR3_ex hh
      subst ed
      obtain ⟨w, y, z, rfl, r1, r2, r3⟩ := Rbs.three r1
      exact ⟨i, j, -1, (i - j).toNat, by rw [r1.int, r2.int, r3.int], RgC.neg i1 i2 j1 j2, l _ H1 _ x1 g1 wk_rangeD q1⟩, m⟩
theorem vi_range3 (hg : Gl X "range") (hm : X.mg "range" = none) (h : VXs X b W [e1, e2, e3] ta) (hs : starEach [e1, e2, e3] X.env = (false, eval e1 X.env) :: starEach [e2, e3] X.env := by rfl) (hpl : (backTo pos (starEach [e2, e3] X.env)).any (·.1) = false := by rfl) :
    VI X b W tg (.Call (.Name "range" p) [e1, e2, e3] [] pos) (iR3 ta) := pi_rngD hg hm h hs hpl
end
end VL
set_option Elab.async false
set_option linter.all false
set_option maxRecDepth 100000
set_option maxHeartbeats 4000000
/-! VL84: list(d.values()) -/
namespace VL
open PySem PySem.Spec PyProof.Rows L2
@[simp] def gVals : D → (D → Prop) → Prop
  | .py (.dict ds), Q => Q (.py (.list (ds.map (·.2))))
  | _, _ => False
end VL
set_option Elab.async false
set_option linter.all false
set_option maxRecDepth 100000
set_option maxHeartbeats 4000000
/-! VL85: sorted(d.items()), numbers for keys and values -/
namespace VL
open PySem PySem.Spec PyProof.Rows L2
section
variable {prog : Program} {w : World} {A : Around} {s : Shared} {E : Value → Shared → Prop}
def prV (p : Int × Int) : List Int := [p.1, p.2]
end
section
variable {X : Cx}
end
/-! ### over values -/
@[simp] def gSrtIt : D → (D → Prop) → Prop
  | .py (.dict ds), Q => ∃ L : List (Int × Int), ds = L.map (fun p => (PyData.int p.1, PyData.int p.2)) ∧ L ≠ [] ∧ Q (.py (.list ((sortT (L.map prV)).map fun l => PyData.tuple (l.map PyData.int))))
  | _, _ => False
end VL
set_option Elab.async false
set_option linter.all false
set_option maxRecDepth 100000
set_option maxHeartbeats 4000000
/-! VL86: list(d.items()), numbers for keys and values -/
namespace VL
open PySem PySem.Spec PyProof.Rows L2
section
variable {X : Cx}
end
@[simp] def gLstIt : D → (D → Prop) → Prop
  | .py (.dict ds), Q => ∃ L : List (Int × Int), ds = L.map (fun p => (PyData.int p.1, PyData.int p.2)) ∧ Q (.py (.list ((L.map prV).map fun l => PyData.tuple (l.map PyData.int))))
  | _, _ => False
end VL
set_option Elab.async false
set_option linter.all false
set_option maxRecDepth 100000
set_option maxHeartbeats 4000000
/-! VL87: sorted(set(xs)), xs a list of allI0 -/
namespace VL
open PySem PySem.Spec PyProof.Rows L2
section
variable {P : Program} {w : World} {A : Around} {E : Value → Shared → Prop} {s : Shared}
end
section
variable {X : Cx}
end
@[simp] def vSortSetL (t : VT) : VT := fun ρ Q E => t ρ (fun d => ∃ xs ns, d = .py (.list xs) ∧ allI xs = some ns ∧ ns.length < 63 ∧ ∀ ks : List Int, ks.Pairwise (· < ·) → (∀ j, j ∈ ks ↔ j ∈ ns) → Q (.py (.list (ks.map PyData.int)))) E
end VL
set_option Elab.async false
set_option linter.all false
set_option maxRecDepth 100000
set_option maxHeartbeats 4000000
/-! VL88: x in d, x not in d, d a dict -/
namespace VL
open PySem PySem.Spec PyProof.Rows L2
section
variable {X : Cx} {b : Bg} {W : WX} {e1 e2 : Expr} {t1 t2 : VT} {pos : Pos}
@[simp] def gInDk (neg : Bool) : D → D → (D → Prop) → Prop
  | .py k, .py (.dict ds), Q => ∃ kk, VL.keyOf k = some kk ∧ Q (.py (.bool (neg ^^ (getD ds kk).isSome)))
  | _, _, _ => False
end
end VL
set_option Elab.async false
set_option linter.all false
set_option maxRecDepth 100000
set_option maxHeartbeats 4000000
/-! VL89: a def under another global name -/
namespace VL
open PySem PySem.Spec PyProof.Rows L2
structure DefKA (K : PySem.W.Frag) (y x : Str) (st : Stmt) : Prop where
  ex : ∃ (f : Addr) (oc kV doc pm cdv ct : Value) (od an : Option Addr) (osl : Array (Option Value)), PySem.W.nsIn K mainGlobals y = some (some (.ref f)) ∧ K.lookup f = some ⟨oc, od, .func (PySem.W.fnOf x x (defArgs st) (defBody st) (defScope st) .none kV doc pm an cdv ct), osl⟩ ∧ PySem.W.codeIn K cdv x = true ∧ PySem.W.keepIn K (.ref f) = true
theorem defKA {K : PySem.W.Frag} {y x : Str} {st : Stmt} {f : Addr} {oc kV doc pm cdv ct : Value} {od an : Option Addr} {osl : Array (Option Value)} (a : PySem.W.nsIn K mainGlobals y = some (some (.ref f)))
    (l : K.lookup f = some ⟨oc, od, .func (PySem.W.fnOf x x (defArgs st) (defBody st) (defScope st) .none kV doc pm an cdv ct), osl⟩) (c : PySem.W.codeIn K cdv x = true) (k : PySem.W.keepIn K (.ref f) = true) : DefKA K y x st := ⟨f, oc, kV, doc, pm, cdv, ct, od, an, osl, a, l, c, k⟩
theorem DefKA.use {K : PySem.W.Frag} {y x : Str} {st : Stmt} {h : Heap} {mg : Str → Option Value} (d : DefKA K y x st) (X : K.In h) (G : h.Ns mainGlobals mg) : ∃ (f : Addr) (fd : FuncData), Fun K x x st f fd ∧ mg y = some (.ref f) ∧ PySem.W.keepIn K (.ref f) = true ∧ fd.defaults = .none := by
  obtain ⟨f, oc, kV, doc, pm, cdv, ct, od, an, osl, a, l, c, k⟩ := d.ex
  exact ⟨f, _, fun_mk l c k, PySem.W.mg_of X G a, k, rfl⟩
end VL
set_option Elab.async false
set_option linter.all false
set_option maxRecDepth 100000
set_option maxHeartbeats 4000000
/-! VL90: zip of any number of tuples of one length, at the machine's level -/
namespace VL
open PySem PySem.Spec PyProof.Rows L2
section
variable {M : Model} {A : Around} {E : Value → Shared → Prop}
end
structure ZD (z TI TO : Addr) (its ls : List Addr) : Prop where
  tiz : TI ≠ z
  toz : TO ≠ z
  tot : TO ≠ TI
  iz : ∀ i ∈ its, i ≠ z
  it : ∀ i ∈ its, i ≠ TI
  io : ∀ i ∈ its, i ≠ TO
  nd : its.Nodup
  lz : ∀ l ∈ ls, l ≠ z
  lo : ∀ l ∈ ls, l ≠ TO
  li : ∀ l ∈ ls, l ∉ its
  len : its.length = ls.length
def ZCol (h : Heap) (ls : List Addr) (cols : List (List Value)) : Prop := cols.length = ls.length ∧ ∀ (j : Nat) (l : Addr) (c : List Value), ls[j]? = some l → cols[j]? = some c → h.IsTuple l c.toArray
section
variable {prog : Program} {w : World} {A : Around} {E : Value → Shared → Prop} {s : Shared} {z TI TO : Addr} {its ls : List Addr} {cols : List (List Value)} {k : Nat}
theorem at3 {j : Nat} {a : Addr} {h : Heap} (D : ZD z TI TO its ls) (hc : ZCol h ls cols) (hk : ∀ c ∈ cols, k < c.length) (ha : its[j]? = some a) : ∃ l c x, ls[j]? = some l ∧ cols[j]? = some c ∧ c[k]? = some x := by
  have h1 : j < its.length := (List.getElem?_eq_some_iff.mp ha).1
  have h2 := D.len
  have h3 := hc.1
  have hcm : cols[j]? = some cols[j] := List.getElem?_eq_getElem (by omega)
  exact ⟨ls[j], cols[j], _, List.getElem?_eq_getElem (by omega), hcm, List.getElem?_eq_getElem (hk _ (List.mem_of_getElem? hcm))⟩
end
end VL
set_option Elab.async false
set_option linter.all false
set_option maxRecDepth 100000
set_option maxHeartbeats 4000000
/-! VL91: zip(e, *e2) as what a comprehension walks -/
namespace VL
open PySem PySem.Spec PyProof.Rows L2
section
variable {prog : Program} {w : World} {A : Around} {E : Value → Shared → Prop} {s : Shared} {ls : List Addr} {cols : List (List Value)}
end
end VL
set_option Elab.async false
set_option linter.all false
set_option maxRecDepth 100000
set_option maxHeartbeats 4000000
/-! VL92: for x in zip(e, *e2), the sources being tuples of one length -/
namespace VL
open PySem PySem.Spec PyProof.Rows L2 StX
section
variable {X : Cx} {b : Bg} {W : WX} {e : Expr} {es : List Expr} {x : Str} {p q pos : Pos}
/-! ### over data -/
def zipNP (m : Nat) (cols : List (List PyData)) : List PyData := (List.range m).map fun i => .tuple (cols.map fun c => c.getD i .none)
@[simp] def asZN (ds : List D) (Q : List D → Prop) : Prop := ∃ (cols : List (List PyData)) (m : Nat), ds = cols.map (fun c => D.py (.tuple c)) ∧ 1 ≤ cols.length ∧ cols.length ≤ 6 ∧ (∀ c ∈ cols, c.length = m) ∧ Q ((zipNP m cols).map D.py)
@[simp] def iZN (t : VA) : VIt := fun ρ Q E => t ρ (fun d => asZN d Q) E
end
end VL
set_option Elab.async false
set_option linter.all false
set_option maxRecDepth 100000
set_option maxHeartbeats 4000000
/-! VL93: list(zip(a, b, c)) of up to six tuples of one length -/
namespace VL
open PySem PySem.Spec PyProof.Rows L2
section
variable {prog : Program} {w : World} {A : Around} {s : Shared} {R : Result → Shared → Prop}
end
section
variable {prog : Program} {w : World} {A : Around} {E : Value → Shared → Prop} {s : Shared} {R : Result → Shared → Prop}
end
section
variable {X : Cx}
end
/-! ### over values -/
@[simp] def gLstZN (ds : List D) (Q : D → Prop) : Prop := ∃ (cols : List (List PyData)) (m : Nat), ds = cols.map (fun c => D.py (.tuple c)) ∧ 1 ≤ cols.length ∧ cols.length ≤ 6 ∧ (∀ c ∈ cols, c.length = m) ∧ Q (.py (.list (zipNP m cols)))
end VL
set_option Elab.async false
set_option linter.all false
set_option maxRecDepth 100000
set_option maxHeartbeats 4000000
/-! VL94: min, max of two texts; a <= b <= c <= d of texts -/
namespace VL
open PySem PySem.Spec PySem.Calls PyProof.Rows L2
section
variable {X : Cx}
end
@[simp] def gMaxS : List D → (D → Prop) → Prop
  | [.py (.str i), .py (.str j)], Q => Q (.py (.str (if ltT i j then j else i)))
  | _, _ => False
@[simp] def gMinS : List D → (D → Prop) → Prop
  | [.py (.str i), .py (.str j)], Q => Q (.py (.str (if ltT j i then j else i)))
  | _, _ => False
@[simp] def gLeSt : D → D → (D → Prop) → Prop
  | .py (.str i), .py (.str j), Q => Q (.py (.bool (!ltT j i)))
  | _, _, _ => False
section
variable {b : Bg}
end
/-! ### chains of three comparisons -/
section
variable {X : Cx} {a b c d : Expr} {ta tb tc td : TE} {pos : Pos}
end
@[simp] def vChain3 (g g' g'' : D → D → (D → Prop) → Prop) (ta tb tc td : VT) : VT := fun ρ Q E => ta ρ (fun x => tb ρ (fun y => g x y fun z => ∃ k, z = .py (.bool k) ∧ if k = true then tc ρ (fun w => g' y w fun z => ∃ k, z = .py (.bool k) ∧ if k = true then td ρ (fun v => g'' w v Q) E else Q (.py (.bool false))) E else Q (.py (.bool false))) E) E
section
variable {X : Cx} {b : Bg} {W : WX} {e e1 e2 e3 e4 : Expr} {t1 t2 t3 t4 : VT} {es : List Expr} {u : VA} {p pos : Pos} {r r' r'' : R2} {g g' g'' : D → D → (D → Prop) → Prop}
end
end VL
set_option Elab.async false
set_option linter.all false
set_option maxRecDepth 100000
set_option maxHeartbeats 4000000
/-! VL95: sorted(set(t)), t a tuple of texts, all unlike -/
namespace VL
open PySem PySem.Spec PyProof.Rows L2 PySem.Froz
section
variable {P : Program} {w : World} {A : Around} {E : Value → Shared → Prop} {s : Shared}
end
end VL
set_option Elab.async false
set_option linter.all false
set_option maxRecDepth 100000
set_option maxHeartbeats 4000000
/-! VL96: sorted(set(t)), t a tuple of texts, over values -/
namespace VL
open PySem PySem.Spec PyProof.Rows L2 PySem.Froz
section
variable {X : Cx}
end
@[simp] def vSortSetX (t : VT) : VT := fun ρ Q E => t ρ (fun d => ∃ ns : List Str, d = .py (.tuple (ns.map PyData.str)) ∧ ns.Nodup ∧ ns.length < 4000 ∧ Q (.py (.list ((sortSt ns).map PyData.str)))) E
section
variable {X : Cx} {a b c d : Expr} {ta tb tc td : TE} {pos : Pos}
end
section
variable {X : Cx} {b : Bg} {W : WX} {e1 e2 e3 e4 : Expr} {t1 t2 t3 t4 : VT} {pos : Pos}
end
end VL
set_option Elab.async false
set_option linter.all false
set_option maxRecDepth 100000
set_option maxHeartbeats 4000000
namespace VL
open PySem PySem.Spec PyProof.Rows L2
/-! ### several targets, some of them items of owned lists -/
section
variable {X : Cx} {b : Bg} {W : WX} {e e1 e2 : Expr} {es : List Expr} {st : Stmt} {t t1 t2 : VT} {u : VA} {pos pos' : Pos} {i : Nat} {x : Str}
/-- an item of an owned list -/
@[simp] def tgSto (i : Nat) (ty : VT) : VTg := fun d ρ Q => ∃ xs, ρ[i]? = some (.own (.py (.list xs))) ∧ ∃ p, d = .py p ∧ ty ρ (fun y => ∃ k, y = .py (.int k) ∧ ∃ ys, setAt xs k p = some ys ∧ Q (ρ.set i (.own (.py (.list ys))))) fun _ => False
/-- t1, t2 = e1, e2 by way of a tuple -/
@[simp] def sParM (n : Nat) (u : VA) (g : VTgs) : VS := fun ρ De => u ρ (fun ds => ds.length = n ∧ g ds ρ De.nx) (De.ex ρ)
/-! ### a list, from an item on, with a step -/
def stepL {α : Type} (xs : List α) (lo st : Int) : List α := (sliceRange (sliceBounds (some lo) none (some st) xs.length).1 (sliceBounds (some lo) none (some st) xs.length).2.1 (sliceBounds (some lo) none (some st) xs.length).2.2).filterMap (xs[·]?)
theorem stepL_mem {α : Type} {xs : List α} {lo st : Int} {x : α} (h : x ∈ stepL xs lo st) : x ∈ xs := by
  unfold stepL at h
  obtain ⟨j, _, h2⟩ := List.mem_filterMap.mp h
  exact List.mem_of_getElem? h2
theorem pick_stepL (its : List Value) (lo st : Int) : (slicePick its.toArray (some lo) none (some st)).toList = stepL its lo st := by
  unfold slicePick stepL
  rw [List.size_toArray]
  show List.filterMap _ _ = _
  refine congrArg (fun f => List.filterMap f _) ?_
  funext j
  rw [List.getElem?_toArray]
theorem vals_step {xs : List V} {its : List Value} (r : Vals xs its) (js : List Nat) : Vals (js.filterMap (xs[·]?)) (js.filterMap (its[·]?)) := by
  induction js with
  | nil => exact .nil
  | cons j js ih =>
    cases e : xs[j]? with
    | some x =>
      obtain ⟨u, hu, ru⟩ := r.get e
      rw [List.filterMap_cons_some e, List.filterMap_cons_some hu]
      exact .cons ru ih
    | none =>
      have e2 : its[j]? = none := by
        rw [List.getElem?_eq_none_iff] at e ⊢
        rw [← r.length]; exact e
      rw [List.filterMap_cons_none e, List.filterMap_cons_none e2]
      exact ih
theorem rqs_step {Z : Addr → Prop} {H : Hp} {v : List V} {d : List PyData} (r : Rqs Z H v d) (js : List Nat) : Rqs Z H (js.filterMap (v[·]?)) (js.filterMap (d[·]?)) := by
  induction js with
  | nil => exact .nil
  | cons j js ih =>
    cases e : d[j]? with
    | some x =>
      obtain ⟨u, hu, ru⟩ := r.get e
      rw [List.filterMap_cons_some e, List.filterMap_cons_some hu]
      exact .cons ru ih
    | none =>
      have e2 : v[j]? = none := by
        rw [List.getElem?_eq_none_iff] at e ⊢
        rw [r.length]; exact e
      rw [List.filterMap_cons_none e, List.filterMap_cons_none e2]
      exact ih
def tStp (K : PySem.W.Frag) (te : TE) (tl ts : TO) : TE := fun σ H Q => te σ H fun x H1 => tl σ H1 fun l H2 => ts σ H2 fun k H3 => ∃ lo st a xs, l = some lo ∧ k = some st ∧ st ≠ 0 ∧ x = .ref a ∧ SqL K H3 a xs ∧ ∀ p, H3 p = none → Q (.ref p) (upd H3 p (.lst (stepL xs lo st)))
theorem pe_step {te : TE} {tl ts : TO} {lo st : Expr} {p2 : Pos} (he : PE X e te) (hl : PO X (some lo) tl) (hst : PO X (some st) ts) : PE X (.Subscript e (.Slice (some lo) none (some st) p2) pos) (tStp X.K te tl ts) := by
  refine ⟨fun pins s σ H Q I h => ?_⟩
  refine Subscript_ (thn (he.run pins s σ H _ I h) fun v s1 ⟨x, H1, I1, r1, q1⟩ => ?_)
  have hN : PO X none tNoPart := po_none
  refine wpAny_Slice (thn (hl.run pins s1 σ H1 _ I1 q1) fun vl s2 ⟨l, H2, I2, pl, q2⟩ => thn (hN.run pins s2 σ H2 _ I2 (show tNoPart σ H2 (fun l H3 => l = none ∧ H3 = H2) from ⟨rfl, rfl⟩)) fun vu s3 ⟨u, H3, I3, pu, eu, eH3⟩ => ?_)
  subst eH3 eu
  cases pu
  refine thn (hst.run pins s3 σ _ _ I3 q2) fun vs s4 ⟨k, H4, I4, pk, l0, st0, a, xs, el, ek, h0, ex, hx, q4⟩ => ?_
  subst el ek ex
  obtain rfl : v = .ref a := r1
  cases pl with
  | int i tk =>
    cases pk with
    | int i2 tk2 =>
      have I5 : L2.Inv X pins σ H4 { s4 with heap := s4.heap.push { cls := .type "slice", data := .fields #[.int l0 tk, .none, .int st0 tk2] } } := I4.kept (t' := s4.toks) fun b ob q => Heap.get?_push_of_some _ q
      obtain ⟨its, r, pl, hz⟩ := I5.list hx
      refine tail_any (ops := [.ref a, .ref s4.heap.objs.size]) pl.isList.typeIs list_getitem_lookup (wpAny_getItem_list_slice pl.isList (Heap.IsSliceOf.new ..) (.int l0 tk) .none (.int st0 tk2) (fun e => h0 (Option.some.inj e)) ?_ (by rw [List.size_toArray, ← r.length]; exact hz)) (by with_unfolding_all rfl)
      have rr : Vals (stepL xs l0 st0) (slicePick its.toArray (some l0) none (some st0)).toList := by
        rw [pick_stepL]
        unfold stepL
        rw [r.length]
        exact vals_step r _
      have hz2 : (stepL xs l0 st0).length ≤ sizeLine := by
        rw [rr.length, Array.length_toList]
        exact Nat.le_trans (slicePick_size_le _ _ _ _) (by rw [List.size_toArray, ← r.length]; exact hz)
      refine ⟨.ref _, _, I5.laid (o := .lst (stepL xs l0 st0)) (t' := s4.toks) (fun b o e => Heap.get?_push_of_some _ e) (Nat.le_refl _) ⟨hz2, (slicePick its.toArray (some l0) none (some st0)).toList, 0, rr, Heap.get?_push_size _ rfl⟩, rfl, q4 _ (I5.hok.fresh (Nat.le_refl _))⟩
@[simp] def vStp (t : VT) (tl ts : VO) : VT := fun ρ Q E => t ρ (fun x => tl ρ (fun l => ts ρ (fun k => ∃ xs lo st, x = .py (.list xs) ∧ l = some lo ∧ k = some st ∧ st ≠ 0 ∧ Q (.py (.list (stepL xs lo st)))) E) E) E
theorem vn_step {tl ts : VO} {lo st : Expr} {p2 : Pos} (h : VX X b W e t) (h1 : VPt X b W (some lo) tl) (h2 : VPt X b W (some st) ts) : VN X b W (.Subscript e (.Slice (some lo) none (some st) p2) pos) (vStp t tl ts) :=
  pe_mono (pe_step h h1 h2) fun σ H Q ⟨Zo, Z, ρ, Qd, Ed, v, q, l, m⟩ => ⟨Zo, Z, ρ, _, Ed, v, q, fun x H1 d x1 g1 r1 q1 => ⟨Zo, Z, ρ, _, Ed, v.ex x1 g1, q1, fun k H2 x2 g2 q2 => ⟨Zo, Z, ρ, _, Ed, (v.ex x1 g1).ex x2 g2, q2, fun k2 H3 x3 g3 ⟨xs, lo, st, ed, el, ek, h0, q3⟩ => by
    subst ed
    have v2 := (v.ex x1 g1).ex x2 g2
    have v3 := v2.ex x3 g3
    have r3 := (r1.ex ((v.ex x1 g1).keep x2) x2).ex (v2.keep x3) x3
    obtain ⟨a, us, rfl, ha, qa⟩ := r3.list
    refine ⟨lo, st, a, us, el, ek, h0, rfl, SqL.of ha, fun p hp => l _ _ (.py (.list (stepL xs lo st))) (((x1.trans x2).trans x3).trans (Ex.new hp)) (Bg.new g3 hp) ?_ q3⟩
    refine Rn.of g3 ((x1.trans x2).trans x3) ⟨p, rfl, hp, _, upd_same, ?_⟩
    unfold stepL
    rw [qa.length]
    exact (rqs_step qa _).up' hp, fun c z H2 er x3 g3 r2 q2 => m c z H2 er ((x1.trans x2).trans x3) g3 r2 q2⟩, fun c z H2 er x2 g2 r2 q2 => m c z H2 er (x1.trans x2) g2 r2 q2⟩, m⟩
end
end VL
set_option Elab.async false
set_option linter.all false
set_option maxRecDepth 100000
set_option maxHeartbeats 4000000
namespace LawP
open PySem PySem.Spec PyProof.Rows L2 VL
def t_mates : VS :=
  (sSeq (sPar [1, 2] (mCons true (vLst vNil) (mCons true vD0 mNil)))
  (sSeq (sFor (iEn (vCons (vVar 0) vNil)) (tgTup 2 (tgCons (tgName 3) (tgCons (tgName 4) tgNil)))
  (sSeq (sMut 1 gApp (vCons (vDGet2 (vBor 2) (vVar 4) (vC (.py .none))) vNil))
  (sDPutO 2 (vVar 4) (vVar 3))))
  (sRet (vCal gTuple (vCons (vBor 1) vNil)))))
end LawP
set_option Elab.async false
set_option linter.all false
namespace LawP
open PySem VL
/-! ### mates: the mathematics -/
/-- the latest person before i of the group g -/
def lastIn (row : List Int) (g : Int) (i : Nat) : Option Nat := ((List.range i).filter fun j => row[j]? == some g).getLast?
def mateOf (row : List Int) (i : Nat) : Option Nat := (row[i]?).bind fun g => lastIn row g i
def matesL (row : List Int) : List (Option Nat) := (List.range row.length).map (mateOf row)
theorem lastIn_succ (row : List Int) (g : Int) (i : Nat) : lastIn row g (i + 1) = if row[i]? = some g then some i else lastIn row g i := by
  unfold lastIn
  rw [List.range_succ, List.filter_append]
  by_cases h : row[i]? = some g
  · rw [if_pos h]; simp [h]
  · rw [if_neg h]; simp [h]
theorem lastIn_some {row : List Int} {g : Int} {i m : Nat} (h : lastIn row g i = some m) : m < i ∧ row[m]? = some g ∧ ∀ j, m < j → j < i → row[j]? ≠ some g := by
  induction i with
  | zero => simp [lastIn] at h
  | succ i ih =>
    rw [lastIn_succ] at h
    split at h
    · rename_i c
      cases h
      exact ⟨Nat.lt_succ_self _, c, fun j h1 h2 => by omega⟩
    · rename_i c
      obtain ⟨a, b, d⟩ := ih h
      refine ⟨by omega, b, fun j h1 h2 => ?_⟩
      by_cases e : j = i
      · rw [e]; exact c
      · exact d j h1 (by omega)
theorem mateOf_lt {row : List Int} {i m : Nat} (h : mateOf row i = some m) : m < i ∧ i < row.length := by
  unfold mateOf at h
  cases e : row[i]? with
  | none => rw [e] at h; cases h
  | some g =>
    rw [e] at h
    exact ⟨(lastIn_some h).1, (List.getElem?_eq_some_iff.mp e).1⟩
theorem mateOf_at {row : List Int} {i : Nat} {g : Int} (h : row[i]? = some g) : mateOf row i = lastIn row g i := by unfold mateOf; rw [h]; rfl
end LawP
set_option Elab.async false
set_option linter.all false
set_option maxRecDepth 100000
set_option maxHeartbeats 4000000
namespace LawP
open PySem PySem.Spec PyProof.Rows L2 VL
/-! ### mates -/
def matesP (row : List Int) : PyData := .tuple ((matesL row).map oN)
@[simp] def S_mates : SV := fun ds Q _ => ∃ row : List Int, ds = [.py (tI row)] ∧ row.length ≤ 1000 ∧ Q (.py (matesP row))
theorem l_mates : ∀ ds Q E, S_mates ds Q E → t_mates (envOf 5 ds) (fin Q E) := by
  rintro ds Q E ⟨row, rfl, hl, q⟩
  simp [t_mates, tI, -forGo]
  refine for_inv (fun i ρ => ∃ acc ds x y, ρ = [.shr (.py (tI row)), .own (.py (.list acc)), .own (.py (.dict ds)), x, y] ∧ acc = ((matesL row).take i).map oN ∧ ds.length ≤ i ∧ ∀ g, getD ds (.inl g) = (lastIn row g i).map pN) (fun i d ρ hd iv nx ct hn => ?_) (fun ρ iv => ?_) ⟨[], [], _, _, rfl, by simp, by simp, fun g => by simp [lastIn]⟩
  · obtain ⟨acc, ds, x, y, rfl, ea, h1, h2⟩ := iv
    obtain ⟨g, hg, rfl⟩ := enumP_getD hd
    have hi : i < row.length := (List.getElem?_eq_some_iff.mp hg).1
    have hm : (matesL row)[i]? = some (mateOf row i) := by simp [matesL, hi]
    have la : acc.length = i := by rw [ea]; simp [matesL]; omega
    simp [VL.keyOf, h2]
    refine ⟨by omega, by omega, (hn _ ⟨_, _, _, _, rfl, ?_, ?_, fun g' => ?_⟩).1⟩
    · rw [take_succ_get hm, List.map_append, ea, mateOf_at hg]
      cases lastIn row g i <;> rfl
    · have := putD_len ds (.inl g) (.int i)
      omega
    · rw [getD_putD, lastIn_succ, h2, hg]
      by_cases c : g' = g
      · subst c; simp [pN]
      · simp [c, Ne.symm c]
  · obtain ⟨acc, ds, x, y, rfl, ea, _, _⟩ := iv
    rw [List.take_of_length_le (by simp [matesL, enumP_len])] at ea
    subst ea
    simpa [matesP] using q
/-! ### a drawn row -/
@[simp] def S_law_drawn (r : Addr) : SV
  | [.raw v, .py (.int m)], Q, _ => v = .ref r ∧ 1 ≤ m ∧ m ≤ 40 ∧ ∀ gs : List Int, gs ≠ [] → gs.length ≤ m → (∀ g ∈ gs, 0 ≤ g ∧ g ≤ 1000000000) → Q (.py (.tuple (gs.map PyData.int)))
  | _, _, _ => False
end LawP
set_option Elab.async false
set_option linter.all false
set_option maxRecDepth 100000
set_option maxHeartbeats 4000000
namespace LawP
open PySem PySem.Spec PyProof.Rows L2 VL
def t_word_with : VS :=
  (sSeq (sPar [1, 2] (mCons true (vLst vNil) (mCons false (vC (.py (.int 0))) mNil)))
  (sSeq (sFor (iS (vVar 0)) (tgName 3)
  (sSeq (sMut 1 gApp (vCons (vBin gAdd (vBin gMulA (vC (.py (.str "s"))) (vBin gSub (vBor 3) (vBor 2))) (vC (.py (.str "a")))) vNil))
  (sSet 2 (vVar 3))))
  (sRet (vBin gAdd (vMth isS gTJoin (vC (.py (.str ""))) (vCons (vBor 1) vNil)) (vBin gMulA (vC (.py (.str "s"))) (vBin gSub (vCal gLen (vCons (vBor 0) vNil)) (vBor 2)))))))
def t_is_integer : VS :=
  (sRet (vAnd (vCal gIsi (vCons (vBor 0) (vCons (vC (.raw (.ty "int"))) vNil))) (vAnd (vNot (vCal gIsi (vCons (vBor 0) (vCons (vC (.raw (.ty "bool"))) vNil)))) (vChain gLe gLe (vBor 1) (vBor 0) (vBor 2)))))
end LawP
set_option Elab.async false
set_option linter.all false
set_option maxRecDepth 100000
set_option maxHeartbeats 4000000
namespace LawP
open PySem PySem.Spec PyProof.Rows L2 VL
end LawP
set_option Elab.async false
set_option linter.all false
namespace LawP
open PySem VL
/-! ### words: the mathematics -/
def isL (c : Nat) : Bool := c == 97 || c == 115
/-- the places of signs that are no letters -/
def badW (w : List Nat) : List Nat := (w.zipIdx.filter fun p => !isL p.1).map (·.2)
/-- the first arrival or service too many: n persons, from place k on, behind a arrivals and s services -/
def scanP (n : Nat) : Nat → Nat → Nat → List Nat → PyData
  | _, _, _, [] => .none
  | k, a, s, c :: w => if c = 97 then (if a = n then .tuple [.int k, .str "arrival"] else scanP n (k + 1) (a + 1) s w) else (if s = a then .tuple [.int k, .str "service"] else scanP n (k + 1) a (s + 1) w)
def wErrL (n : Nat) (w : List Nat) : PyData := match badW w with
  | i :: _ => .tuple [.int (i : Nat), .str "letter"]
  | [] => scanP n 0 0 0 w
def wErr (n : Nat) : PyData → PyData
  | .str z => wErrL n (sl z)
  | _ => .tuple [.none, .str "string"]
/-- w is what is left of a history of n persons, behind a arrivals and s services -/
def goodW (n : Nat) : Nat → Nat → List Nat → Prop
  | a, s, [] => a = n ∧ s = n
  | a, s, c :: w => (c = 97 ∧ a < n ∧ goodW n (a + 1) s w) ∨ (c = 115 ∧ s < a ∧ goodW n a (s + 1) w)
/-- histories -/
def HistW (n : Nat) (w : List Nat) : Prop := goodW n 0 0 w
theorem goodW_len {n : Nat} : ∀ {w : List Nat} {a s : Nat}, goodW n a s w → w.length + a + s = 2 * n
  | [], a, s, ⟨h1, h2⟩ => by simp; omega
  | c :: w, a, s, h => by
    rcases h with ⟨_, _, h⟩ | ⟨_, _, h⟩
    · have := goodW_len h; simp; omega
    · have := goodW_len h; simp; omega
theorem HistW.len {n : Nat} {w : List Nat} (h : HistW n w) : w.length = 2 * n := by have := goodW_len h; omega
end LawP
set_option Elab.async false
set_option linter.all false
set_option maxRecDepth 100000
set_option maxHeartbeats 4000000
namespace LawP
open PySem PySem.Spec PyProof.Rows L2 VL
@[simp] theorem lit_a : Str.ofString "a" = mkS [97] := by decide +kernel
@[simp] theorem lit_s : Str.ofString "s" = mkS [115] := by decide +kernel
@[simp] theorem lit_e : Str.ofString "" = mkS [] := by decide +kernel
@[simp] theorem lit_as : Str.ofString "as" = mkS [97, 115] := by decide +kernel
def isSm (p : PyData) : Prop := ∀ z, p = .str z → z.length ≤ 100000
/-! ### word_error -/
@[simp] def S_word_error : SV
  | [.py (.tuple xs), .py p], Q, _ => isSm p ∧ Q (.py (wErr xs.length p))
  | _, _, _ => False
/-! ### is_history -/
def isHist (n : Nat) (p : PyData) : Bool := match p with
  | .str z => isNn (wErr n (.str z)) && decide (z.length = 2 * n)
  | _ => false
@[simp] def S_is_history : SV
  | [.py (.tuple xs), .py p], Q, _ => isSm p ∧ xs.length ≤ 100000 ∧ Q (.py (.bool (isHist xs.length p)))
  | _, _, _ => False
/-! ### what is drawn -/
def odds : List PyData := [.none, .bool true, .bool false, .int (-1), .int 0, .int 1, .int 40, .int 1000000001, .int 1000000000000000000000000000000000000000, .str "", .str "a", .str "as", .str "0", .tuple [], .list [], .dict [], .tuple [.int 0], .list [.int 0], .tuple [.bool true], .tuple [.str "a", .str "s"], .tuple [.int 0, .int 0], .str "none", .dict [(.str "a", .int 0)], .tuple [.int 1, .int 0]]
@[simp] def S_law_odd (r : Addr) : SV
  | [.raw v], Q, _ => v = .ref r ∧ ∀ p ∈ odds, Q (.py p)
  | _, _, _ => False
@[simp] def S_law_word (r : Addr) : SV
  | [.raw v, .py (.int m), .py (.int way)], Q, _ => v = .ref r ∧ 0 ≤ m ∧ m ≤ 1000 ∧ 0 ≤ way ∧ way < 5 ∧ ∀ w : List Nat, HistW m.toNat w → Q (.py (.str (mkS w)))
  | _, _, _ => False
/-! ### the law's own look at a word -/
@[simp] def S_law_fault : SV
  | [.py (.tuple xs), .py p], Q, _ => isSm p ∧ Q (.py (wErr xs.length p))
  | _, _, _ => False
/-! ### a word changed -/
@[simp] def S_law_twisted (r : Addr) : SV
  | [.raw v, .py (.str z)], Q, _ => v = .ref r ∧ z.length ≤ 50000 ∧ ∀ z' : Str, z'.length ≤ z.length + 10 → (∀ c ∈ sl z', c ∈ sl z ∨ c < 128) → Q (.py (.str z'))
  | _, _, _ => False
end LawP
set_option Elab.async false
set_option linter.all false
set_option maxRecDepth 100000
set_option maxHeartbeats 4000000
namespace LawP
open PySem PySem.Spec PyProof.Rows L2 VL
/-! ### sizes of words and what is told of them -/
end LawP
set_option Elab.async false
set_option linter.all false
set_option maxRecDepth 100000
set_option maxHeartbeats 4000000
namespace LawP
open PySem PySem.Spec PyProof.Rows L2 VL
/-! ### whole numbers within bounds -/
def isInt (p : PyData) (lo hi : Int) : Bool := match p with
  | .int i => decide (lo ≤ i) && decide (i ≤ hi)
  | _ => false
@[simp] def S_is_integer : SV
  | [.py p, .py (.int lo), .py (.int hi)], Q, _ => Q (.py (.bool (isInt p lo hi)))
  | _, _, _ => False
theorem l_is_integer : ∀ ds Q E, S_is_integer ds Q E → t_is_integer (envOf 3 ds) (fin Q E)
  | [.py p, .py (.int lo), .py (.int hi)], Q, E, q => by
    cases p <;> simp [t_is_integer, isInt] at q ⊢ <;> try assumption
    rename_i i
    by_cases h : lo ≤ i <;> simp [h] at q ⊢ <;> exact q
/-! ### counts and their words -/
/-- the first wrong place, b the count before -/
def badC : Int → Nat → List PyData → Option Nat
  | _, _, [] => none
  | b, k, .int c :: ps => if b ≤ c ∧ c ≤ k then badC c (k + 1) ps else some k
  | _, k, _ :: _ => some k
def wordP : Int → Nat → List PyData → List Nat
  | b, k, [] => List.replicate ((k : Int) - b).toNat 115
  | b, k, .int c :: ps => List.replicate (c - b).toNat 115 ++ 97 :: wordP c (k + 1) ps
  | _, _, _ :: _ => []
theorem badC_cons {b : Int} {k : Nat} {p : PyData} {ps : List PyData} : badC b k (p :: ps) = if isInt p b k = true then (match p with | .int c => badC c (k + 1) ps | _ => none) else some k := by
  cases p <;> simp [badC, isInt]
theorem isInt_ex {p : PyData} {lo hi : Int} (h : isInt p lo hi = true) : ∃ c, p = .int c ∧ lo ≤ c ∧ c ≤ hi := by
  cases p <;> simp [isInt] at h
  exact ⟨_, rfl, h.1, h.2⟩
theorem drop_atE {α : Type} {xs : List α} {i : Nat} {x : α} (h : xs[i]? = some x) : xs.drop i = x :: xs.drop (i + 1) := by
  obtain ⟨hi, rfl⟩ := List.getElem?_eq_some_iff.mp h
  exact List.drop_eq_getElem_cons hi
theorem sum_le {ls : List (List Nat)} {m : Nat} (h : ∀ l ∈ ls, l.length ≤ m) : (ls.map List.length).sum ≤ m * ls.length := by
  induction ls with
  | nil => simp
  | cons l ls ih =>
    have := ih fun l hl => h l (List.mem_cons_of_mem _ hl)
    have := h l List.mem_cons_self
    simp only [List.map_cons, List.sum_cons, List.length_cons, Nat.mul_add]
    omega
@[simp] def S_word_with : SV
  | [.py (.tuple ps)], Q, _ => ps.length ≤ 40 ∧ badC 0 0 ps = none ∧ Q (.py (.str (mkS (wordP 0 0 ps))))
  | [.py (.list ps)], Q, _ => ps.length ≤ 40 ∧ badC 0 0 ps = none ∧ Q (.py (.str (mkS (wordP 0 0 ps))))
  | _, _, _ => False
theorem l_word_with : ∀ ds Q E, S_word_with ds Q E → t_word_with (envOf 4 ds) (fin Q E)
  | [.py (.tuple ps)], Q, E, ⟨hl, hb, q⟩ => by
    simp [t_word_with, -forGo]
    refine for_inv (fun i ρ => ∃ (ls : List (List Nat)) (sv : List PyData) (bf : Int) (x : VL.Slot), ρ = [.shr (.py (.tuple ps)), .own (.py (.list sv)), .shr (.py (.int bf)), x] ∧ sv = ls.map (fun l => PyData.str (mkS l)) ∧ ls.length = i ∧ badC bf i (ps.drop i) = none ∧ wordP 0 0 ps = ls.flatten ++ wordP bf i (ps.drop i) ∧ 0 ≤ bf ∧ bf ≤ i ∧ ∀ l ∈ ls, l.length ≤ 42) (fun i p ρ hp iv nx ct hn => ?_) (fun ρ iv => ?_) ⟨[], [], 0, _, rfl, rfl, rfl, by simpa using hb, by simp, by omega, by omega, by simp⟩
    · obtain ⟨ls, sv, bf, x, rfl, es, el, h1, h2, h3, h4, h5⟩ := iv
      have hi : i < ps.length := (List.getElem?_eq_some_iff.mp hp).1
      rw [drop_atE hp] at h1 h2
      rw [badC_cons] at h1
      by_cases c : isInt p bf i = true
      · obtain ⟨k, rfl, k1, k2⟩ := isInt_ex c
        rw [if_pos c] at h1
        have sl : sv.length = i := by rw [es]; simpa using el
        simp
        refine ⟨by omega, by omega, by omega, (hn _ ⟨ls ++ [List.replicate (k - bf).toNat 115 ++ [97]], _, k, _, rfl, ?_, by simp [el], h1, ?_, by omega, by omega, ?_⟩).1⟩
        · rw [es]; simp
        · rw [h2]; simp [wordP]
        · intro l hl'
          rcases List.mem_append.mp hl' with h | h
          · exact h5 l h
          · rw [List.mem_singleton.mp h]; simp; omega
      · rw [if_neg c] at h1
        cases h1
    · obtain ⟨ls, sv, bf, x, rfl, es, el, h1, h2, h3, h4, h5⟩ := iv
      rw [List.drop_length] at h2
      have hs := sum_le h5
      have ej := join0 ls
      simp [es, allS_mk]
      have e0 : ((fun x : Str => x.length) ∘ mkS) = (List.length : List Nat → Nat) := by funext l; simp
      have el2 : (Txt.join (mkS []) (List.map mkS ls)).length = (ls.map List.length).sum := by rw [ej]; simp [List.length_flatten]
      rw [e0, el2, ej]
      refine ⟨by omega, ⟨by omega, by omega, by omega⟩, by omega, ?_⟩
      rw [h2] at q
      simpa [wordP] using q
  | [.py (.list ps)], Q, E, ⟨hl, hb, q⟩ => by
    simp [t_word_with, -forGo]
    refine for_inv (fun i ρ => ∃ (ls : List (List Nat)) (sv : List PyData) (bf : Int) (x : VL.Slot), ρ = [.shr (.py (.list ps)), .own (.py (.list sv)), .shr (.py (.int bf)), x] ∧ sv = ls.map (fun l => PyData.str (mkS l)) ∧ ls.length = i ∧ badC bf i (ps.drop i) = none ∧ wordP 0 0 ps = ls.flatten ++ wordP bf i (ps.drop i) ∧ 0 ≤ bf ∧ bf ≤ i ∧ ∀ l ∈ ls, l.length ≤ 42) (fun i p ρ hp iv nx ct hn => ?_) (fun ρ iv => ?_) ⟨[], [], 0, _, rfl, rfl, rfl, by simpa using hb, by simp, by omega, by omega, by simp⟩
    · obtain ⟨ls, sv, bf, x, rfl, es, el, h1, h2, h3, h4, h5⟩ := iv
      have hi : i < ps.length := (List.getElem?_eq_some_iff.mp hp).1
      rw [drop_atE hp] at h1 h2
      rw [badC_cons] at h1
      by_cases c : isInt p bf i = true
      · obtain ⟨k, rfl, k1, k2⟩ := isInt_ex c
        rw [if_pos c] at h1
        have sl : sv.length = i := by rw [es]; simpa using el
        simp
        refine ⟨by omega, by omega, by omega, (hn _ ⟨ls ++ [List.replicate (k - bf).toNat 115 ++ [97]], _, k, _, rfl, ?_, by simp [el], h1, ?_, by omega, by omega, ?_⟩).1⟩
        · rw [es]; simp
        · rw [h2]; simp [wordP]
        · intro l hl'
          rcases List.mem_append.mp hl' with h | h
          · exact h5 l h
          · rw [List.mem_singleton.mp h]; simp; omega
      · rw [if_neg c] at h1
        cases h1
    · obtain ⟨ls, sv, bf, x, rfl, es, el, h1, h2, h3, h4, h5⟩ := iv
      rw [List.drop_length] at h2
      have hs := sum_le h5
      have ej := join0 ls
      simp [es, allS_mk]
      have e0 : ((fun x : Str => x.length) ∘ mkS) = (List.length : List Nat → Nat) := by funext l; simp
      have el2 : (Txt.join (mkS []) (List.map mkS ls)).length = (ls.map List.length).sum := by rw [ej]; simp [List.length_flatten]
      rw [e0, el2, ej]
      refine ⟨by omega, ⟨by omega, by omega, by omega⟩, by omega, ?_⟩
      rw [h2] at q
      simpa [wordP] using q
@[simp] def wfQ (ps : List PyData) (Q : D → Prop) (E : Er → Prop) : Prop := if 1 ≤ ps.length ∧ ps.length ≤ 40 then (match badC 0 0 ps with | none => Q (.py (.str (mkS (wordP 0 0 ps)))) | some k => E ⟨"BadCount", [("index", .int (k : Nat))]⟩) else E ⟨"TooLarge", [("limit", .int 40)]⟩
@[simp] def S_word_from : SV
  | [.py (.tuple ps)], Q, E => wfQ ps Q E
  | _, _, _ => False
end LawP
set_option Elab.async false
set_option linter.all false
set_option maxRecDepth 100000
set_option maxHeartbeats 4000000
namespace LawP
open PySem PySem.Spec PyProof.Rows L2 VL
def t_is_number : VS :=
  (sRet (vAnd (vCal gIsi (vCons (vBor 0) (vCons (vC (.raw (.ty "int"))) vNil))) (vAnd (vNot (vCal gIsi (vCons (vBor 0) (vCons (vC (.raw (.ty "bool"))) vNil)))) (vChain gLe gLe (vBor 1) (vBor 0) (vBor 2)))))
def t_is_order (S_is_number : SV) : VS :=
  (sSeq (sIf (wOr (wNot (vTst (vCal gIsi (vCons (vBor 1) (vCons (vC (.raw (.ty "tuple"))) vNil))))) (vTst (vBin gNe (vCal gLen (vCons (vBor 1) vNil)) (vCal gLen (vCons (vBor 0) vNil)))))
  (sRet (vC (.py (.bool false))))
  sNext)
  (sRet (vAnd (vCal gAll (vCons (vLc [2] (iS (vBor 1)) (tgName 2) wYes (vCall S_is_number (vCons (vVar 2) (vCons (vC (.py (.int 0))) (vCons (vBin gSub (vCal gLen (vCons (vBor 0) vNil)) (vC (.py (.int 1)))) vNil))))) vNil)) (vBin gEq (vLenSet (vBor 1)) (vCal gLen (vCons (vBor 0) vNil))))))
end LawP
set_option Elab.async false
set_option linter.all false
set_option maxRecDepth 100000
set_option maxHeartbeats 4000000
namespace VL
open PySem PySem.Spec PyProof.Rows L2
/-! ### the sizes of lists of data -/
end VL
set_option Elab.async false
set_option linter.all false
set_option maxRecDepth 100000
set_option maxHeartbeats 4000000
namespace LawP
open PySem PySem.Spec PyProof.Rows L2 VL
/-! ### orders, plainly -/
theorem sub_perm : ∀ {ks ns : List Int}, ks.Nodup → (∀ j, j ∈ ks → j ∈ ns) → ∃ rest, ns.Perm (ks ++ rest)
  | [], ns, _, _ => ⟨ns, .refl _⟩
  | k :: ks, ns, hn, hs => by
    rw [List.nodup_cons] at hn
    have hk : k ∈ ns := hs k List.mem_cons_self
    obtain ⟨rest, h⟩ := sub_perm (ks := ks) (ns := ns.erase k) hn.2 fun j hj => by
      have ne : j ≠ k := fun e => hn.1 (e ▸ hj)
      exact (List.mem_erase_of_ne ne).mpr (hs j (List.mem_cons_of_mem _ hj))
    exact ⟨rest, (List.perm_cons_erase hk).trans (h.cons k)⟩
def rngI (n : Nat) : List Int := (List.range n).map fun i : Nat => (i : Int)
theorem rngI_len (n : Nat) : (rngI n).length = n := by simp [rngI]
theorem rngI_lt (n : Nat) : (rngI n).Pairwise (· < ·) := by
  unfold rngI
  rw [List.pairwise_map]
  exact List.pairwise_lt_range.imp fun h => by omega
theorem rngI_nodup (n : Nat) : (rngI n).Nodup := (rngI_lt n).imp fun h => by omega
theorem rngI_sorted (n : Nat) : (rngI n).Pairwise (· ≤ ·) := (rngI_lt n).imp fun h => by omega
theorem rngI_mem {n : Nat} {j : Int} : j ∈ rngI n ↔ 0 ≤ j ∧ j < n := by
  unfold rngI
  rw [List.mem_map]
  constructor
  · rintro ⟨i, hi, rfl⟩
    have := List.mem_range.mp hi
    omega
  · rintro ⟨h1, h2⟩
    exact ⟨j.toNat, List.mem_range.mpr (by omega), by omega⟩
theorem order_iff {n : Nat} {ns ks : List Int} (hl : ns.length = n) (hr : ∀ j ∈ ns, 0 ≤ j ∧ j < n) (hn : ks.Nodup) (hm : ∀ j, j ∈ ks ↔ j ∈ ns) : ks.length = n ↔ sortI ns = rngI n := by
  constructor
  · intro hk
    obtain ⟨r1, p1⟩ := sub_perm hn fun j h => (hm j).mp h
    obtain ⟨r2, p2⟩ := sub_perm (ns := rngI n) hn fun j h => rngI_mem.mpr (hr j ((hm j).mp h))
    have e1 : r1 = [] := by
      have := p1.length_eq
      rw [List.length_append] at this
      exact List.length_eq_zero_iff.mp (by omega)
    have e2 : r2 = [] := by
      have := p2.length_eq
      rw [List.length_append, rngI_len] at this
      exact List.length_eq_zero_iff.mp (by omega)
    subst e1 e2
    rw [List.append_nil] at p1 p2
    exact (sortI_eq (p2.trans p1.symm) (rngI_sorted n)).symm
  · intro h
    have p : ns.Perm (rngI n) := by rw [← h]; exact (sortI_perm ns).symm
    obtain ⟨r1, p1⟩ := sub_perm hn fun j hj => (p.mem_iff).mp ((hm j).mp hj)
    obtain ⟨r2, p2⟩ := sub_perm (rngI_nodup n) fun j hj => (hm j).mpr ((p.mem_iff).mpr hj)
    have l1 := p1.length_eq
    have l2 := p2.length_eq
    rw [List.length_append, rngI_len] at l1 l2
    omega
theorem order_range {n : Nat} {ns : List Int} (h : sortI ns = rngI n) : ∀ j ∈ ns, 0 ≤ j ∧ j < n := fun j hj => by
  have p : ns.Perm (rngI n) := by rw [← h]; exact (sortI_perm ns).symm
  exact rngI_mem.mp ((p.mem_iff).mp hj)
def isIntJ (p : PyData) (lo hi : Int) : Bool := match p with
  | .int i => decide (lo ≤ i) && decide (i ≤ hi)
  | _ => false
@[simp] def S_is_number : SV
  | [.py p, .py (.int lo), .py (.int hi)], Q, _ => Q (.py (.bool (isIntJ p lo hi)))
  | _, _, _ => False
theorem l_is_number : ∀ ds Q E, S_is_number ds Q E → t_is_number (envOf 3 ds) (fin Q E)
  | [.py p, .py (.int lo), .py (.int hi)], Q, E, q => by
    cases p <;> simp [t_is_number, isIntJ] at q ⊢ <;> try assumption
    rename_i i
    by_cases h : lo ≤ i <;> simp [h] at q ⊢ <;> exact q
/-- is it an order of n persons? -/
def ordB (n : Nat) (p : PyData) : Bool := match p with
  | .tuple xs => decide (xs.length = n) && (match VL.allI xs with
    | some ns => decide (sortI ns = rngI n)
    | none => false)
  | _ => false
@[simp] def S_is_order : SV := fun ds Q _ => ∃ (row : List Int) (p : PyData), ds = [.py (tI row), .py p] ∧ row ≠ [] ∧ row.length ≤ 40 ∧ Q (.py (.bool (ordB row.length p)))
abbrev notI (x : PyData) : Bool := !(dInt x && !dBool x)
theorem ints_or : ∀ xs : List PyData, (∃ ns : List Int, xs = ns.map PyData.int ∧ VL.allI xs = some ns ∧ xs.filter notI = []) ∨ (VL.allI xs = none ∧ ∃ y ys, xs.filter notI = y :: ys)
  | [] => .inl ⟨[], rfl, rfl, rfl⟩
  | x :: xs => by
    rcases ints_or xs with ⟨ns, h1, h2, h3⟩ | ⟨h1, y, ys, h2⟩
    · cases x
      case int i => exact .inl ⟨i :: ns, by rw [h1]; rfl, by simp [VL.allI, h2], by rw [List.filter_cons]; simp [dInt, dBool]; simpa using h3⟩
      all_goals exact .inr ⟨rfl, _, _, by rw [List.filter_cons]; simp [dInt, dBool]; exact ⟨rfl, rfl⟩⟩
    · cases x
      case int i => exact .inr ⟨by simp [VL.allI, h1], y, ys, by rw [List.filter_cons]; simp [dInt, dBool]; simpa using h2⟩
      all_goals exact .inr ⟨rfl, _, _, by rw [List.filter_cons]; simp [dInt, dBool]; exact ⟨rfl, rfl⟩⟩
theorem l_is_order : ∀ ds Q E, S_is_order ds Q E → t_is_order S_is_number (envOf 3 ds) (fin Q E) := by
  rintro ds Q E ⟨row, p, rfl, h0, h1, q⟩
  have hp : 0 < row.length := List.length_pos_iff.mpr h0
  cases p
  case tuple xs =>
    by_cases hl : xs.length = row.length
    · have el : (xs.map D.py) = (xs.map id).map D.py := by simp
      simp [t_is_order, hl, -lcGo]
      rw [el]
      refine lc_encM id (fun x => .bool (isIntJ x 0 ((row.length : Nat) - 1))) (fun i x hx k k1 => ?_) (by omega) ?_
      · simp [lcStep]
        exact k1
      · have eb : xs.map (fun x => PyData.bool (isIntJ x 0 ((row.length : Nat) - 1))) = (xs.map fun x => isIntJ x 0 ((row.length : Nat) - 1)).map PyData.bool := by simp
        rw [eb]
        refine ⟨_, allB_mk _, ?_⟩
        cases ha : ((xs.map fun x => isIntJ x 0 ((row.length : Nat) - 1)).all fun k => k) with
        | true =>
          have hall : ∀ x ∈ xs, isIntJ x 0 ((row.length : Nat) - 1) = true := by simpa using ha
          rcases ints_or xs with ⟨ns, e1, e2, e3⟩ | ⟨e2, y, ys, e3⟩
          · have hq : ordB row.length (.tuple xs) = decide (sortI ns = rngI row.length) := by simp [ordB, hl, e2]
            have hln : ns.length = row.length := by rw [← hl, e1]; simp
            have hr : ∀ j ∈ ns, 0 ≤ j ∧ j < (row.length : Nat) := fun j hj => by
              have := hall (.int j) (by rw [e1]; exact List.mem_map_of_mem hj)
              simp [isIntJ] at this
              omega
            simp
            refine ⟨ns, e2, by omega, fun ks k1 k2 => ?_⟩
            have io := order_iff hln hr k1 k2
            rw [hq] at q
            by_cases hk : ks.length = row.length
            · have e := io.mp hk
              rw [e] at q
              simpa [hk] using q
            · have e : ¬ sortI ns = rngI row.length := fun e => hk (io.mpr e)
              have hk2 : ((ks.length : Int) == (row.length : Int)) = false := by simp; omega
              rw [hk2]
              simpa [e] using q
          · exfalso
            have hy : y ∈ xs.filter notI := by rw [e3]; exact List.mem_cons_self
            obtain ⟨m1, m2⟩ := List.mem_filter.mp hy
            have := hall y m1
            cases y <;> simp [isIntJ, notI, dInt, dBool] at this m2
        | false =>
          have hq : ordB row.length (.tuple xs) = false := by
            rcases ints_or xs with ⟨ns, e1, e2, e3⟩ | ⟨e2, y, ys, e3⟩
            · have h2 : ¬ sortI ns = rngI row.length := fun e => by
                have hr := order_range e
                have : ((xs.map fun x => isIntJ x 0 ((row.length : Nat) - 1)).all fun k => k) = true := by
                  rw [e1]
                  simp [isIntJ]
                  intro j hj
                  have := hr j hj
                  omega
                rw [this] at ha
                cases ha
              simp [ordB, e2, h2]
            · simp [ordB, e2]
          rw [hq] at q
          simpa using q
    · have hi : ¬ (xs.length : Int) = row.length := by omega
      simp [ordB, hl] at q
      simp [t_is_order, hi]
      exact q
  all_goals (simp [t_is_order, ordB] at q ⊢; exact q)
@[simp] def S_j_row (r : Addr) : SV
  | [.raw v, .py (.int m)], Q, _ => v = .ref r ∧ 1 ≤ m ∧ m ≤ 40 ∧ ∀ gs : List Int, gs ≠ [] → gs.length ≤ m → (∀ g ∈ gs, 0 ≤ g ∧ g ≤ 1000000000) → Q (.py (tI gs))
  | _, _, _ => False
@[simp] def S_j_mixed (r : Addr) : SV := fun ds Q _ => ∃ (xs : List PyData) (p : PyData), ds = [.raw (.ref r), .py p] ∧ (p = .list xs ∨ p = .tuple xs) ∧ xs.length ≤ 1000 ∧ ∀ ys : List PyData, ys.Perm xs → Q (.py (.tuple ys))
end LawP
set_option Elab.async false
set_option linter.all false
set_option maxRecDepth 100000
set_option maxHeartbeats 4000000
namespace LawP
open PySem PySem.Spec PyProof.Rows L2 VL
def t_require_order (S_is_order : SV) : VS :=
  (sIf (wNot (vTst (vCall S_is_order (vCons (vVar 0) (vCons (vVar 1) vNil)))))
  (sRaise0 "NoOrder")
  sNext)
def t_places_in : VS :=
  (sSeq (sSetN 1 (vBin gRepL (vLst (vCons (vC (.py (.int 0))) vNil)) (vCal gLen (vCons (vBor 0) vNil))))
  (sSeq (sFor (iEn (vCons (vVar 0) vNil)) (tgTup 2 (tgCons (tgName 2) (tgCons (tgName 3) tgNil)))
  (sStoL 1 (vVar 3) (vVar 2)))
  (sFrz 1 (sRet (vVar 1)))))
def t_kind_of : VS :=
  (sSeq (sIf (vTst (vBor 0))
  (sRet (vIf (vTst (vBor 1)) (vC (.py (.str "both"))) (vC (.py (.str "near")))))
  sNext)
  (sRet (vIf (vTst (vBor 1)) (vC (.py (.str "leads"))) (vC (.py (.str "none"))))))
def t_kinds_of (S_require_order : SV) (S_places_in : SV) (S_mates : SV) (S_kind_of : SV) : VS :=
  (sSeq (sExpr (vCall S_require_order (vCons (vVar 0) (vCons (vVar 1) vNil))))
  (sSeq (sPar [2, 3, 4] (mCons false (vCall S_places_in (vCons (vVar 1) vNil)) (mCons true (vLst vNil) (mCons false (vUn gNeg (vC (.py (.int 1)))) mNil))))
  (sSeq (sFor (iZ2 (vCons (vVar 2) (vCons (vCall S_mates (vCons (vVar 0) vNil)) vNil))) (tgTup 2 (tgCons (tgName 5) (tgCons (tgName 6) tgNil)))
  (sSeq (sSet 7 (vAnd (vBin (gIsN true) (vBor 6) (vC (.py .none))) (vBin gEq (vBor 5) (vBin gAdd (vBin gIx (vBor 2) (vBor 6)) (vC (.py (.int 1)))))))
  (sSeq (sMut 3 gApp (vCons (vCall S_kind_of (vCons (vVar 7) (vCons (vBin gGt (vBor 5) (vBor 4)) vNil))) vNil))
  (sSet 4 (vCal gMax (vCons (vBor 4) (vCons (vBor 5) vNil)))))))
  (sRet (vCal gTuple (vCons (vBor 3) vNil))))))
end LawP
set_option Elab.async false
set_option linter.all false
namespace LawP
open PySem VL
/-! ### the queue: the mathematics -/
/-- p stands at place i -/
def insAt (ws : List Nat) (i p : Nat) : List Nat := ws.take i ++ p :: ws.drop i
/-- where p joins: behind the mate, or at the end -/
def joinPl (ws : List Nat) (m : Option Nat) : Nat := match m with
  | some k => if k ∈ ws then ws.idxOf k + 1 else ws.length
  | none => ws.length
def joinQ (ws : List Nat) (p : Nat) (m : Option Nat) : List Nat := insAt ws (joinPl ws m) p
theorem mem_insAt {ws : List Nat} {i p x : Nat} : x ∈ insAt ws i p ↔ x = p ∨ x ∈ ws := by
  unfold insAt
  rw [List.mem_append, List.mem_cons]
  constructor
  · rintro (h | h | h)
    · exact .inr (List.mem_of_mem_take h)
    · exact .inl h
    · exact .inr (List.mem_of_mem_drop h)
  · rintro (h | h)
    · exact .inr (.inl h)
    · rw [← List.take_append_drop i ws] at h
      exact (List.mem_append.mp h).elim .inl fun h => .inr (.inr h)
theorem insAt_len (ws : List Nat) (i p : Nat) : (insAt ws i p).length = ws.length + 1 := by
  unfold insAt
  rw [List.length_append, List.length_cons, List.length_take, List.length_drop]
  omega
theorem joinQ_len (ws : List Nat) (p : Nat) (m : Option Nat) : (joinQ ws p m).length = ws.length + 1 := insAt_len _ _ _
theorem mem_joinQ {ws : List Nat} {p x : Nat} {m : Option Nat} : x ∈ joinQ ws p m ↔ x = p ∨ x ∈ ws := mem_insAt
/-! ### words done -/
/-- a beginning of a history, behind a arrivals and s services -/
def okP (n : Nat) : Nat → Nat → List Nat → Prop
  | _, _, [] => True
  | a, s, c :: w => (c = 97 ∧ a < n ∧ okP n (a + 1) s w) ∨ (c = 115 ∧ s < a ∧ okP n a (s + 1) w)
/-- letter, person, waiting: for each letter -/
def stepsL (row : List Int) : Nat → List Nat → List Nat → List (Nat × Nat × List Nat)
  | _, _, [] => []
  | a, ws, c :: w => if c = 97 then (c, a, joinQ ws a (mateOf row a)) :: stepsL row (a + 1) (joinQ ws a (mateOf row a)) w else match ws with
    | x :: ws' => (c, x, ws') :: stepsL row a ws' w
    | [] => []
theorem stepsL_a (row : List Int) (a : Nat) (ws w : List Nat) : stepsL row a ws (97 :: w) = (97, a, joinQ ws a (mateOf row a)) :: stepsL row (a + 1) (joinQ ws a (mateOf row a)) w := rfl
theorem stepsL_s (row : List Int) (a x : Nat) (ws w : List Nat) : stepsL row a (x :: ws) (115 :: w) = (115, x, ws) :: stepsL row a ws w := rfl
/-- who was served -/
def servedL (st : List (Nat × Nat × List Nat)) : List Nat := (st.filter fun p => p.1 == 115).map fun p => p.2.1
/-- who waits at the end -/
def waitL (st : List (Nat × Nat × List Nat)) : List Nat := match st.getLast? with
  | some p => p.2.2
  | none => []
end LawP
set_option Elab.async false
set_option linter.all false
namespace VL
open PySem PySem.Spec PyProof.Rows L2 HT
@[simp] theorem atI_one {α : Type} (x y : α) (xs : List α) : atI (x :: y :: xs) 1 = some y := by have := @atI_nat _ (x :: y :: xs) 1 _ rfl; exact this
@[simp] theorem atI_two {α : Type} (x y z : α) (xs : List α) : atI (x :: y :: z :: xs) 2 = some z := by have := @atI_nat _ (x :: y :: z :: xs) 2 _ rfl; exact this
@[simp] theorem atI_three {α : Type} (x y z u : α) (xs : List α) : atI (x :: y :: z :: u :: xs) 3 = some u := by have := @atI_nat _ (x :: y :: z :: u :: xs) 3 _ rfl; exact this
end VL
namespace LawP
open PySem VL
/-! ### lists of persons -/
theorem pn_ex (ws : List Nat) (m : Option Nat) : (∃ x, x ∈ ws ∧ (pN x).eqv (oN m) = true) ↔ ∃ k, m = some k ∧ k ∈ ws := by
  constructor
  · rintro ⟨x, hx, e⟩
    cases m with
    | none => simp [pN, oN, PyData.eqv] at e
    | some k =>
      simp [pN, oN] at e
      have : x = k := by omega
      subst this
      exact ⟨_, rfl, hx⟩
  · rintro ⟨k, rfl, hk⟩
    exact ⟨k, hk, by simp [pN, oN]⟩
theorem pn_plain (ws : List Nat) : PyData.plainAll (ws.map pN) = true := by
  have : ws.map pN = (ws.map fun (n : Nat) => (n : Int)).map PyData.int := by rw [List.map_map]; rfl
  rw [this, plainAll_ints]
theorem pn_depth (ws : List Nat) : PyData.depthAll (ws.map pN) = 0 := by
  induction ws with
  | nil => rfl
  | cons w ws ih => rw [List.map_cons, depthAll_cons, ih]; rfl
theorem pn_ix {ws : List Nat} {k : Nat} (h : k ∈ ws) : ixOf (ws.map pN) (.int (k : Int)) = some (ws.idxOf k) := by
  induction ws with
  | nil => simp at h
  | cons w ws ih =>
    rw [List.map_cons, ixOf, List.idxOf_cons]
    by_cases e : w = k
    · have e1 : (pN w).eqv (.int (k : Int)) = true := by subst e; simp [pN]
      rw [if_pos e1, e]; simp
    · have e1 : ¬ (pN w).eqv (.int (k : Int)) = true := by simp [pN]; omega
      have e2 : (w == k) = false := beq_eq_false_iff_ne.mpr e
      have hk : k ∈ ws := by rcases List.mem_cons.mp h with h | h; exact absurd h.symm e; exact h
      rw [if_neg e1, ih hk, e2]; rfl
theorem on_plain (m : Option Nat) : (oN m).plain = true := by cases m <;> rfl
theorem on_depth (m : Option Nat) : (oN m).depth = 0 := by cases m <;> rfl
theorem drop_at' {α : Type} {w : List α} {k : Nat} {c : α} (hc : w[k]? = some c) : w.drop k = c :: w.drop (k + 1) := by
  have hk := (List.getElem?_eq_some_iff.mp hc).1
  rw [List.drop_eq_getElem_cons hk]
  congr 1
  exact (List.getElem?_eq_some_iff.mp hc).2
theorem eqv_pN : ∀ a b : List Nat, PyData.eqvAll (a.map pN) (b.map pN) = decide (a = b)
  | [], [] => rfl
  | [], _ :: _ => rfl
  | _ :: _, [] => rfl
  | x :: a, y :: b => by
    rw [List.map_cons, List.map_cons, PyData.eqvAll, eqv_pN a b]
    have : (pN x).eqv (pN y) = decide (x = y) := by
      simp [pN]
      rw [Bool.eq_iff_iff]
      simp
      omega
    rw [this]
    by_cases h : x = y <;> simp [h]
/-! ### what a word leads to -/
/-- the order of service -/
def ordL (row : List Int) (w : List Nat) : List Nat := servedL (stepsL row 0 [] w)
/-- the mate waits -/
def joinB (row : List Int) (ws : List Nat) (a : Nat) : Bool := match mateOf row a with
  | some m => decide (m ∈ ws)
  | none => false
/-- who joins the mate -/
def joinsL (row : List Int) : Nat → List Nat → List Nat → List Nat
  | _, _, [] => []
  | a, ws, c :: w => if c = 97 then (if joinB row ws a = true then [a] else []) ++ joinsL row (a + 1) (joinQ ws a (mateOf row a)) w else joinsL row a ws.tail w
/-- services before each arrival -/
def cntsL : Nat → List Nat → List Nat
  | _, [] => []
  | s, c :: w => if c = 97 then s :: cntsL s w else cntsL (s + 1) w
theorem cntsL_a (s : Nat) (w : List Nat) : cntsL s (97 :: w) = s :: cntsL s w := rfl
theorem cntsL_s (s : Nat) (w : List Nat) : cntsL s (115 :: w) = cntsL (s + 1) w := rfl
theorem servedL_a (x : Nat) (y : List Nat) (L : List (Nat × Nat × List Nat)) : servedL ((97, x, y) :: L) = servedL L := by simp [servedL]
theorem servedL_s (x : Nat) (y : List Nat) (L : List (Nat × Nat × List Nat)) : servedL ((115, x, y) :: L) = x :: servedL L := by simp [servedL]
theorem joinQ_perm (ws : List Nat) (a : Nat) (m : Option Nat) : (joinQ ws a m).Perm (a :: ws) := by
  unfold joinQ insAt
  refine List.perm_middle.trans ?_
  rw [List.take_append_drop]
theorem goodW_okP {n : Nat} : ∀ {w : List Nat} {a s : Nat}, goodW n a s w → okP n a s w
  | [], _, _, _ => trivial
  | c :: w, a, s, h => by
    rcases h with ⟨e, ha, h⟩ | ⟨e, ha, h⟩
    · exact .inl ⟨e, ha, goodW_okP h⟩
    · exact .inr ⟨e, ha, goodW_okP h⟩
theorem served_perm {row : List Int} {n : Nat} : ∀ {w : List Nat} {a s : Nat} {ws : List Nat}, goodW n a s w → ws.length + s = a → a ≤ n → (servedL (stepsL row a ws w)).Perm (ws ++ List.range' a (n - a))
  | [], a, s, ws, ⟨h1, h2⟩, e, h3 => by
    have : ws = [] := List.length_eq_zero_iff.mp (by omega)
    subst this h1
    simp [stepsL, servedL]
  | c :: w, a, s, ws, h, e, h3 => by
    rcases h with ⟨rfl, ha, h⟩ | ⟨rfl, ha, h⟩
    · rw [stepsL_a, servedL_a]
      have ih := served_perm (row := row) (ws := joinQ ws a (mateOf row a)) h (by rw [joinQ_len]; omega) ha
      refine ih.trans ?_
      have e2 : n - a = (n - (a + 1)) + 1 := by omega
      rw [e2, List.range'_succ]
      refine ((joinQ_perm ws a _).append_right _).trans ?_
      rw [List.cons_append]
      exact List.perm_middle.symm
    · cases ws with
      | nil => simp at e; omega
      | cons x ws =>
        rw [stepsL_s, servedL_s, List.cons_append]
        exact (served_perm h (by simp at e; omega) h3).cons x
theorem ordL_perm {row : List Int} {w : List Nat} (h : HistW row.length w) : (ordL row w).Perm (List.range row.length) := by
  have := served_perm (row := row) (ws := []) h rfl (Nat.zero_le _)
  rwa [List.nil_append, Nat.sub_zero, ← List.range_eq_range'] at this
end LawP
set_option Elab.async false
set_option linter.all false
set_option maxRecDepth 100000
set_option maxHeartbeats 4000000
namespace LawP
open PySem PySem.Spec PyProof.Rows L2 VL
/-! ### orders as lists of persons -/
theorem tI_cast (ms : List Nat) : tI (ms.map fun (n : Nat) => (n : Int)) = tN ms := by
  unfold tI tN; rw [List.map_map]; rfl
theorem cast_toNat {ns : List Int} (pos : ∀ j ∈ ns, 0 ≤ j) : (ns.map Int.toNat).map (fun (n : Nat) => (n : Int)) = ns := by
  induction ns with
  | nil => rfl
  | cons x xs ih =>
    have h1 := pos x List.mem_cons_self
    have h2 := ih fun j hj => pos j (List.mem_cons_of_mem _ hj)
    rw [List.map_cons, List.map_cons, h2]
    congr 1
    omega
theorem rngI_nat (n : Nat) : (rngI n).map Int.toNat = List.range n := by
  unfold rngI
  rw [List.map_map]
  have : (Int.toNat ∘ fun (i : Nat) => (i : Int)) = id := by funext i; simp
  rw [this, List.map_id]
theorem ordB_iff {n : Nat} {p : PyData} : ordB n p = true ↔ ∃ ms : List Nat, p = tN ms ∧ ms.Perm (List.range n) := by
  constructor
  · intro h
    cases p <;> simp [ordB] at h
    rename_i xs
    obtain ⟨h1, h2⟩ := h
    cases e : VL.allI xs with
    | none => rw [e] at h2; cases h2
    | some ns =>
      rw [e] at h2
      simp at h2
      have ex := allI_of e
      have p : ns.Perm (rngI n) := by rw [← h2]; exact (sortI_perm ns).symm
      have pos : ∀ j ∈ ns, 0 ≤ j := fun j hj => (rngI_mem.mp ((p.mem_iff).mp hj)).1
      refine ⟨ns.map Int.toNat, ?_, ?_⟩
      · rw [← tI_cast, cast_toNat pos, ex]; rfl
      · rw [← rngI_nat n]
        exact p.map _
  · rintro ⟨ms, rfl, hp⟩
    have hl : ms.length = n := by have := hp.length_eq; simpa using this
    have hs : sortI (ms.map fun (k : Nat) => (k : Int)) = rngI n := (sortI_eq (hp.map _).symm (rngI_sorted n)).symm
    simp [ordB, tN, hl, allI_pN, hs]
theorem ordB_tN {ms : List Nat} {n : Nat} (h : ms.Perm (List.range n)) : ordB n (tN ms) = true := ordB_iff.mpr ⟨ms, rfl, h⟩
theorem perm_nodup {ms : List Nat} {n : Nat} (h : ms.Perm (List.range n)) : ms.Nodup := h.symm.nodup List.nodup_range
theorem perm_len {ms : List Nat} {n : Nat} (h : ms.Perm (List.range n)) : ms.length = n := by have := h.length_eq; simpa using this
theorem perm_mem {ms : List Nat} {n k : Nat} (h : ms.Perm (List.range n)) : k ∈ ms ↔ k < n := by rw [h.mem_iff]; exact List.mem_range
@[simp] def S_require_order : SV := fun ds Q E => ∃ (row : List Int) (p : PyData), ds = [.py (tI row), .py p] ∧ row ≠ [] ∧ row.length ≤ 40 ∧ (ordB row.length p = true → Q (.py .none)) ∧ (ordB row.length p = false → E ⟨"NoOrder", []⟩)
theorem l_require_order : ∀ ds Q E, S_require_order ds Q E → t_require_order S_is_order (envOf 2 ds) (fin Q E) := by
  rintro ds Q E ⟨row, p, rfl, h0, h1, q1, q2⟩
  simp [t_require_order]
  refine ⟨row, p, ⟨rfl, rfl⟩, h0, h1, ?_⟩
  cases h : ordB row.length p with
  | true => simpa [h] using q1 h
  | false => simpa [h] using q2 h
/-- the kind of a person -/
def kindS (near ahead : Bool) : Str := if near then (if ahead then "both" else "near") else (if ahead then "leads" else "none")
@[simp] def S_kind_of : SV
  | [.py (.bool a), .py (.bool b)], Q, _ => Q (.py (.str (kindS a b)))
  | _, _, _ => False
theorem l_kind_of : ∀ ds Q E, S_kind_of ds Q E → t_kind_of (envOf 2 ds) (fin Q E)
  | [.py (.bool a), .py (.bool b)], Q, E, q => by
    cases a <;> cases b <;> simp [t_kind_of, kindS] at q ⊢ <;> exact q
/-- pop and insert keep the persons -/
@[simp] def S_j_swapped (r : Addr) : SV := fun ds Q _ => ∃ ms : List Nat, ds = [.raw (.ref r), .py (tN ms)] ∧ ms ≠ [] ∧ ms.length ≤ 40 ∧ ∀ ns : List Nat, ns.Perm ms → Q (.py (tN ns))
/-! ### places -/
def placesL (ms : List Nat) : List Nat := (List.range ms.length).map fun k => ms.idxOf k
theorem idx_get {ms : List Nat} {k : Nat} (h : k ∈ ms) : ms[ms.idxOf k]? = some k := by
  have := List.idxOf_lt_length_of_mem h
  rw [List.getElem?_eq_getElem this]
  simp
@[simp] def S_places_in : SV := fun ds Q _ => ∃ (ms : List Nat) (b : Bool), ds = [.py (cond b (tN ms) (.list (ms.map pN)))] ∧ ms.length ≤ 40 ∧ ms.Perm (List.range ms.length) ∧ Q (.py (.list ((placesL ms).map pN)))
theorem l_places_in : ∀ ds Q E, S_places_in ds Q E → t_places_in (envOf 4 ds) (fin Q E) := by
  rintro ds Q E ⟨ms, b, rfl, h1, hp, q⟩
  cases b <;> simp [t_places_in, -forGo]
  all_goals
    refine ⟨by omega, ?_⟩
    have e0 : List.replicate ms.length (PyData.int 0) = (List.replicate ms.length 0).map pN := by simp [pN]
    rw [e0]
    refine for_inv (fun i ρ => ∃ (pl : List Nat) (z x y : VL.Slot), ρ = [z, .own (.py (.list (pl.map pN))), x, y] ∧ pl.length = ms.length ∧ ∀ j, j < i → ∀ m, ms[j]? = some m → pl[m]? = some j) (fun i p ρ hx iv nx ct hn => ?_) (fun ρ iv => ?_) ⟨_, _, _, _, rfl, by simp, by simp⟩
    · obtain ⟨pl, z, x, y, rfl, hl, h3⟩ := iv
      obtain ⟨m, hm, rfl⟩ := enumP_getD hx
      have hmm := (perm_mem hp).mp (List.mem_of_getElem? hm)
      simp
      refine ⟨(pl.set m i).map pN, ?_, (hn _ ⟨pl.set m i, z, .shr (.py (.int (i : Nat))), .shr (.py (pN m)), rfl, by simpa using hl, fun j hj m' hm' => ?_⟩).1⟩
      · unfold setAt
        rw [show ixN (pl.map pN).length (m : Int) = some m by unfold ixN; simp; omega]
        simp [pN]
      · by_cases e : j = i
        · subst e
          rw [hm] at hm'
          cases hm'
          rw [List.getElem?_set_self (by omega)]
        · have hmm' := (perm_mem hp).mp (List.mem_of_getElem? hm')
          have ne : m ≠ m' := fun e2 => by
            subst e2
            exact e ((List.getElem?_inj (List.getElem?_eq_some_iff.mp hm').1 (perm_nodup hp)).mp (hm'.trans hm.symm))
          rw [List.getElem?_set_ne (by omega)]
          exact h3 j (by omega) m' hm'
    · obtain ⟨pl, z, x, y, rfl, hl, h3⟩ := iv
      simp
      have e : pl = placesL ms := by
        refine List.ext_getElem? fun k => ?_
        by_cases hk : k < ms.length
        · have hkm := (perm_mem hp).mpr hk
          have hg := idx_get hkm
          have := h3 _ (by have := List.idxOf_lt_length_of_mem hkm; simpa [enumP_len] using this) k hg
          rw [this]
          simp [placesL, hk]
        · rw [List.getElem?_eq_none (by omega), List.getElem?_eq_none (by simp [placesL]; omega)]
      subst e
      exact q
@[simp] theorem lit_aH : Str.ofString "a" = mkS [97] := by decide +kernel
@[simp] theorem lit_sH : Str.ofString "s" = mkS [115] := by decide +kernel
@[simp] theorem lit_0 : Str.ofString "" = mkS [] := by decide +kernel
@[simp] def S_j_word (r : Addr) : SV := fun ds Q _ => ∃ n : Nat, ds = [.raw (.ref r), .py (.int (n : Nat))] ∧ n ≤ 40 ∧ ∀ w, HistW n w → Q (.py (.str (mkS w)))
@[simp] def S_j_mate : SV := fun ds Q _ => ∃ (row : List Int) (i : Nat), ds = [.py (tI row), .py (.int (i : Nat))] ∧ i < row.length ∧ row.length ≤ 40 ∧ Q (.py (oN (mateOf row i)))
/-- the earlier ones of the group -/
def kin (row : List Int) (i : Nat) : List Nat := (List.range i).filter fun k => row[k]? == row[i]?
/-! ### the law's own queue -/
@[simp] def S_j_run : SV := fun ds Q _ => ∃ (row : List Int) (w : List Nat), ds = [.py (tI row), .py (.str (mkS w))] ∧ row.length ≤ 40 ∧ w.length ≤ 1000 ∧ okP row.length 0 0 w ∧
  Q (.py (.list [tN (ordL row w), tN (joinsL row 0 [] w), tN (cntsL 0 w)]))
/-! ### kinds -/
def nearB (row : List Int) (ms : List Nat) (i : Nat) : Bool := match mateOf row i with
  | none => false
  | some m => decide (ms.idxOf i = ms.idxOf m + 1)
def leadB (ms : List Nat) (k : Nat) : Bool := (List.range k).all fun j => decide (ms.idxOf j < ms.idxOf k)
def kindL (row : List Int) (ms : List Nat) : List Str := (List.range row.length).map fun k => kindS (nearB row ms k) (leadB ms k)
theorem beq_succ (a b : Nat) : ((a : Int) == (b : Int) + 1) = decide (a = b + 1) := by
  by_cases c : a = b + 1
  · simp [c]
  · have : ¬ (a : Int) = (b : Int) + 1 := by omega
    simp [c, this]
theorem zip_range2 {n : Nat} (f g : Nat → PyData) : zip2P ((List.range n).map f) ((List.range n).map g) = (List.range n).map fun k => PyData.tuple [f k, g k] := by
  unfold zip2P
  rw [List.zip_map', List.map_map]
  rfl
@[simp] def S_j_leads : SV := fun ds Q _ => ∃ (ms : List Nat) (k : Nat), ds = [.py (tN ms), .py (.int (k : Nat))] ∧ ms.Perm (List.range ms.length) ∧ k < ms.length ∧ ms.length ≤ 40 ∧ Q (.py (.bool (leadB ms k)))
@[simp] def S_j_is_near : SV := fun ds Q _ => ∃ (row : List Int) (ms : List Nat) (i : Nat), ds = [.py (tI row), .py (tN ms), .py (.int (i : Nat))] ∧ i < row.length ∧ row.length ≤ 40 ∧ ms.Perm (List.range row.length) ∧ Q (.py (.bool (nearB row ms i)))
@[simp] def S_kinds_of : SV := fun ds Q E => ∃ (row : List Int) (p : PyData), ds = [.py (tI row), .py p] ∧ row ≠ [] ∧ row.length ≤ 40 ∧ (∀ ms, p = tN ms → ms.Perm (List.range row.length) → Q (.py (.tuple ((kindL row ms).map PyData.str)))) ∧ (ordB row.length p = false → E ⟨"NoOrder", []⟩)
theorem l_kinds_of : ∀ ds Q E, S_kinds_of ds Q E → t_kinds_of S_require_order S_places_in S_mates S_kind_of (envOf 8 ds) (fin Q E) := by
  rintro ds Q E ⟨row, p, rfl, h0, h1, q1, q2⟩
  simp [t_kinds_of, -forGo, -S_places_in, -S_mates, -S_kind_of]
  refine ⟨row, p, ⟨rfl, rfl⟩, h0, h1, fun ho => ?_, q2⟩
  obtain ⟨ms, rfl, hp⟩ := ordB_iff.mp ho
  have q := q1 ms rfl hp
  have hl := perm_len hp
  refine ⟨ms, true, rfl, by omega, by rw [hl]; exact hp, ?_⟩
  simp [matesP, -forGo]
  refine ⟨by omega, ?_⟩
  have e1 : (placesL ms).map pN = (List.range row.length).map fun k => pN (ms.idxOf k) := by
    unfold placesL; rw [hl, List.map_map]; rfl
  have e2 : (matesL row).map oN = (List.range row.length).map fun k => oN (mateOf row k) := by
    unfold matesL; rw [List.map_map]; rfl
  have ez : zip2P ((placesL ms).map pN) ((matesL row).map oN) = (List.range row.length).map fun k => PyData.tuple [pN (ms.idxOf k), oN (mateOf row k)] := by
    rw [e1, e2, zip_range2]
  rw [ez]
  refine for_enc (fun k => PyData.tuple [pN (ms.idxOf k), oN (mateOf row k)]) (fun i ρ => ∃ (last : Int) (x y z : VL.Slot), ρ = [.shr (.py (tI row)), .shr (.py (tN ms)), .shr (.py (.list ((placesL ms).map pN))), .own (.py (.list ((List.range i).map fun k => PyData.str (kindS (nearB row ms k) (leadB ms k))))), .shr (.py (.int last)), x, y, z] ∧
    (∀ j, j < i → (ms.idxOf j : Int) ≤ last) ∧ (last = -1 ∨ ∃ j, j < i ∧ last = (ms.idxOf j : Nat))) ⟨-1, _, _, _, rfl, fun j hj => by omega, .inl rfl⟩ (fun i k ρ hk iv nx ct hn => ?_) (fun ρ iv => ?_)
  · obtain ⟨last, x, y, z, rfl, i1, i2⟩ := iv
    obtain ⟨rfl, hk⟩ := range_get hk
    have hld : decide (last < (ms.idxOf k : Nat)) = leadB ms k := by
      rw [Bool.eq_iff_iff, decide_eq_true_eq]
      unfold leadB
      rw [List.all_eq_true]
      constructor
      · intro h j hj
        have := i1 j (List.mem_range.mp hj)
        simp only [decide_eq_true_eq]
        omega
      · intro h
        rcases i2 with rfl | ⟨j, hj, rfl⟩
        · omega
        · have := h j (List.mem_range.mpr hj)
          simp only [decide_eq_true_eq] at this
          omega
    have step : ∀ (x y z : VL.Slot), nx [.shr (.py (tI row)), .shr (.py (tN ms)), .shr (.py (.list ((placesL ms).map pN))), .own (.py (.list (((List.range k).map fun k => PyData.str (kindS (nearB row ms k) (leadB ms k))) ++ [PyData.str (kindS (nearB row ms k) (leadB ms k))]))), .shr (.py (.int (max last (ms.idxOf k : Nat)))), x, y, z] := fun x y z => by
      refine (hn _ ⟨max last (ms.idxOf k : Nat), x, y, z, by rw [List.range_succ, List.map_append]; rfl, fun j hj => ?_, ?_⟩).1
      · by_cases e : j = k
        · subst e; omega
        · have := i1 j (by omega); omega
      · rcases i2 with rfl | ⟨j, hj, rfl⟩
        · exact .inr ⟨k, by omega, by omega⟩
        · by_cases c : ms.idxOf j ≤ ms.idxOf k
          · exact .inr ⟨k, by omega, by omega⟩
          · exact .inr ⟨j, by omega, by omega⟩
    have hnr : nearB row ms k = match mateOf row k with
      | none => false
      | some m => decide (ms.idxOf k = ms.idxOf m + 1) := rfl
    cases hm : mateOf row k with
    | none =>
      rw [hm] at hnr
      simp only at hnr
      rw [hnr, ← hld] at step
      simp [oN, pN]
      exact ⟨by omega, step _ _ _⟩
    | some m =>
      rw [hm] at hnr
      simp only at hnr
      have hmr := (mateOf_lt hm).1
      have ha : atI ((placesL ms).map pN) (m : Int) = some (pN (ms.idxOf m)) := atI_map (by unfold placesL; rw [List.getElem?_map, List.getElem?_range (by omega)]; rfl)
      rw [hnr, ← hld] at step
      simp [oN]
      refine ⟨_, ha, ?_⟩
      simp [pN, beq_succ]
      exact ⟨by omega, step _ _ _⟩
  · obtain ⟨last, x, y, z, rfl, i1, i2⟩ := iv
    simp at q ⊢
    simpa [kindL, Function.comp_def] using q
end LawP
set_option Elab.async false
set_option linter.all false
set_option maxRecDepth 100000
set_option maxHeartbeats 4000000
namespace LawP
open PySem PySem.Spec PyProof.Rows L2 VL
def t_misplaced (S_kinds_of : SV) : VS :=
  (sRet (vCal gTuple (vCons (vLc [2, 3] (iEn (vCons (vCall S_kinds_of (vCons (vVar 0) (vCons (vVar 1) vNil))) vNil)) (tgTup 2 (tgCons (tgName 2) (tgCons (tgName 3) tgNil))) (vTst (vBin gEq (vBor 3) (vC (.py (.str "none"))))) (vVar 2)) vNil)))
def t_least_counts (S_places_in : SV) (S_kinds_of : SV) (S_mates : SV) : VS :=
  (sSeq (sPar [2, 3, 4] (mCons false (vCall S_kinds_of (vCons (vVar 0) (vCons (vVar 1) vNil))) (mCons false (vCall S_places_in (vCons (vVar 1) vNil)) (mCons true (vLst vNil) mNil))))
  (sSeq (sFor (iZ2 (vCons (vVar 2) (vCons (vCall S_mates (vCons (vVar 0) vNil)) vNil))) (tgTup 2 (tgCons (tgName 5) (tgCons (tgName 6) tgNil)))
  (sMut 4 gApp (vCons (vIf (wAnd (vTst (vBin gEq (vBor 5) (vC (.py (.str "leads"))))) (vTst (vBin (gIsN true) (vBor 6) (vC (.py .none))))) (vBin gAdd (vBin gIx (vBor 3) (vBor 6)) (vC (.py (.int 1)))) (vC (.py (.int 0)))) vNil)))
  (sFrz 4 (sRet (vVar 4)))))
def t_greatest_counts (S_places_in : SV) (S_kinds_of : SV) (S_mates : SV) : VS :=
  (sSeq (sPar [2, 3, 4] (mCons false (vCall S_kinds_of (vCons (vVar 0) (vCons (vVar 1) vNil))) (mCons false (vCall S_places_in (vCons (vVar 1) vNil)) (mCons true (vLst vNil) mNil))))
  (sSeq (sFor (iZ3 (vCons (vVar 2) (vCons (vCall S_mates (vCons (vVar 0) vNil)) (vCons (vVar 3) vNil)))) (tgTup 3 (tgCons (tgName 5) (tgCons (tgName 6) (tgCons (tgName 7) tgNil))))
  (sMut 4 gApp (vCons (vIf (vTst (vBin gEq (vBor 5) (vC (.py (.str "near"))))) (vBin gIx (vBor 3) (vBor 6)) (vVar 7)) vNil)))
  (sFrz 4 (sRet (vVar 4)))))
def t_clashes (S_greatest_counts : SV) (S_least_counts : SV) : VS :=
  (sSeq (sPar [2, 3] (mCons false (vCall S_least_counts (vCons (vVar 0) (vCons (vVar 1) vNil))) (mCons false (vCall S_greatest_counts (vCons (vVar 0) (vCons (vVar 1) vNil))) mNil)))
  (sSeq (sSetN 4 (vLst vNil))
  (sSeq (sFor (iR1 (vCons (vCal gLen (vCons (vBor 0) vNil)) vNil)) (tgName 5)
  (sMut 4 gExt (vCons (vLc [6] (iR2 (vCons (vBin gAdd (vBor 5) (vC (.py (.int 1)))) (vCons (vCal gLen (vCons (vBor 0) vNil)) vNil))) (tgName 6) (vTst (vBin gGt (vBin gIx (vBor 2) (vBor 5)) (vBin gIx (vBor 3) (vBor 6)))) (vTup (vCons (vVar 5) (vCons (vVar 6) vNil)))) vNil)))
  (sRet (vCal gTuple (vCons (vBor 4) vNil))))))
end LawP
set_option Elab.async false
set_option linter.all false
set_option maxRecDepth 100000
set_option maxHeartbeats 4000000
namespace LawP
open PySem PySem.Spec PyProof.Rows L2 VL
/-! ### demands, plainly -/
def lowD (row : List Int) (ms : List Nat) (k : Nat) : Nat := match mateOf row k with
  | some m => if (!nearB row ms k && leadB ms k) = true then ms.idxOf m + 1 else 0
  | none => 0
def highD (row : List Int) (ms : List Nat) (k : Nat) : Nat := match mateOf row k with
  | some m => if (nearB row ms k && !leadB ms k) = true then ms.idxOf m else ms.idxOf k
  | none => ms.idxOf k
def lowsL (row : List Int) (ms : List Nat) : List Nat := (List.range row.length).map (lowD row ms)
def highsL (row : List Int) (ms : List Nat) : List Nat := (List.range row.length).map (highD row ms)
def wrongL (row : List Int) (ms : List Nat) : List Nat := (List.range row.length).filter fun k => !leadB ms k && !nearB row ms k
def clashRow (row : List Int) (ms : List Nat) (a : Nat) : List (Nat × Nat) := ((List.range (row.length - (a + 1))).filter fun j => decide (highD row ms (a + 1 + j) < lowD row ms a)).map fun j => (a, a + 1 + j)
def clashN (row : List Int) (ms : List Nat) (n : Nat) : List (Nat × Nat) := (List.range n).flatMap (clashRow row ms)
def clashL (row : List Int) (ms : List Nat) : List (Nat × Nat) := clashN row ms row.length
def pairP (p : Nat × Nat) : PyData := .tuple [pN p.1, pN p.2]
theorem kindS_none (a b : Bool) : (kindS a b == Str.ofString "none") = (!b && !a) := by cases a <;> cases b <;> decide +kernel
theorem kindS_leads (a b : Bool) : (kindS a b == Str.ofString "leads") = (!a && b) := by cases a <;> cases b <;> decide +kernel
theorem kindS_near (a b : Bool) : (kindS a b == Str.ofString "near") = (a && !b) := by cases a <;> cases b <;> decide +kernel
theorem kindL_map (row : List Int) (ms : List Nat) : (kindL row ms).map PyData.str = (List.range row.length).map fun k => PyData.str (kindS (nearB row ms k) (leadB ms k)) := by
  unfold kindL; rw [List.map_map]; rfl
theorem matesL_map (row : List Int) : (matesL row).map oN = (List.range row.length).map fun k => oN (mateOf row k) := by
  unfold matesL; rw [List.map_map]; rfl
theorem placesL_map {ms : List Nat} {n : Nat} (h : ms.length = n) : (placesL ms).map pN = (List.range n).map fun k => pN (ms.idxOf k) := by
  unfold placesL; rw [h, List.map_map]; rfl
theorem zip_range3 {n : Nat} (f g h : Nat → PyData) : zip3P ((List.range n).map f) ((List.range n).map g) ((List.range n).map h) = (List.range n).map fun k => PyData.tuple [f k, g k, h k] := by
  unfold zip3P
  rw [List.zip_map', List.zip_map', List.map_map]
  rfl
@[simp] def S_misplaced : SV := fun ds Q E => ∃ (row : List Int) (p : PyData), ds = [.py (tI row), .py p] ∧ row ≠ [] ∧ row.length ≤ 40 ∧ (∀ ms, p = tN ms → ms.Perm (List.range row.length) → Q (.py (tN (wrongL row ms)))) ∧ (ordB row.length p = false → E ⟨"NoOrder", []⟩)
theorem enum_range {n : Nat} (f : Nat → PyData) : enumP ((List.range n).map f) = (List.range n).map fun k => PyData.tuple [.int (k : Nat), f k] := by
  refine List.ext_getElem? fun i => ?_
  rw [enumP_enc, List.getElem?_map, List.getElem?_map, List.getElem?_zipIdx]
  by_cases h : i < n
  · rw [List.getElem?_range h]; simp [encE]
  · rw [List.getElem?_eq_none (by simpa using h)]; rfl
theorem l_misplaced : ∀ ds Q E, S_misplaced ds Q E → t_misplaced S_kinds_of (envOf 4 ds) (fin Q E) := by
  rintro ds Q E ⟨row, p, rfl, h0, h1, q1, q2⟩
  simp [t_misplaced, -lcGo, -S_kinds_of]
  refine ⟨row, p, rfl, h0, h1, fun ms e hp => ?_, q2⟩
  subst e
  have q := q1 ms rfl hp
  simp [kindL_map, enum_range, -lcGo]
  refine lc_encF' (fun k => PyData.tuple [.int (k : Nat), PyData.str (kindS (nearB row ms k) (leadB ms k))]) (fun k => !leadB ms k && !nearB row ms k) (fun k => pN k) (fun i k hk kk k1 k2 => ?_) (by simp; omega) ?_
  · simp [lcStep, kindS_none]
    generalize leadB ms k = a at *
    generalize nearB row ms k = b at *
    cases a <;> cases b <;> simp at k1 k2 ⊢ <;> first | exact k1 | exact k2
  · simpa [wrongL] using q
@[simp] def S_least_counts : SV := fun ds Q E => ∃ (row : List Int) (p : PyData), ds = [.py (tI row), .py p] ∧ row ≠ [] ∧ row.length ≤ 40 ∧ (∀ ms, p = tN ms → ms.Perm (List.range row.length) → Q (.py (.list ((lowsL row ms).map pN)))) ∧ (ordB row.length p = false → E ⟨"NoOrder", []⟩)
@[simp] def S_greatest_counts : SV := fun ds Q E => ∃ (row : List Int) (p : PyData), ds = [.py (tI row), .py p] ∧ row ≠ [] ∧ row.length ≤ 40 ∧ (∀ ms, p = tN ms → ms.Perm (List.range row.length) → Q (.py (.list ((highsL row ms).map pN)))) ∧ (ordB row.length p = false → E ⟨"NoOrder", []⟩)
theorem places_at {ms : List Nat} {m : Nat} (h : m < ms.length) : atI ((placesL ms).map pN) (m : Int) = some (pN (ms.idxOf m)) := atI_map (by unfold placesL; rw [List.getElem?_map, List.getElem?_range h]; rfl)
theorem l_least_counts : ∀ ds Q E, S_least_counts ds Q E → t_least_counts S_places_in S_kinds_of S_mates (envOf 7 ds) (fin Q E) := by
  rintro ds Q E ⟨row, p, rfl, h0, h1, q1, q2⟩
  simp [t_least_counts, -forGo, -S_kinds_of, -S_places_in, -S_mates]
  refine ⟨row, p, rfl, h0, h1, fun ms e hp => ?_, q2⟩
  subst e
  have q := q1 ms rfl hp
  have hl := perm_len hp
  refine ⟨ms, true, rfl, by omega, by rw [hl]; exact hp, ?_⟩
  simp [matesP, -forGo]
  refine ⟨by omega, ?_⟩
  rw [kindL_map, matesL_map, zip_range2]
  refine for_enc (fun k => PyData.tuple [PyData.str (kindS (nearB row ms k) (leadB ms k)), oN (mateOf row k)]) (fun i ρ => ∃ (x y : VL.Slot), ρ = [.shr (.py (tI row)), .shr (.py (tN ms)), .shr (.py (.tuple ((List.range row.length).map fun k => PyData.str (kindS (nearB row ms k) (leadB ms k))))), .shr (.py (.list ((placesL ms).map pN))), .own (.py (.list ((List.range i).map fun k => pN (lowD row ms k)))), x, y])
    ⟨_, _, rfl⟩ (fun i k ρ hk iv nx ct hn => ?_) (fun ρ iv => ?_)
  · obtain ⟨x, y, rfl⟩ := iv
    obtain ⟨rfl, hk⟩ := range_get hk
    have step : ∀ (x y : VL.Slot) v, v = pN (lowD row ms k) → nx [.shr (.py (tI row)), .shr (.py (tN ms)), .shr (.py (.tuple ((List.range row.length).map fun k => PyData.str (kindS (nearB row ms k) (leadB ms k))))), .shr (.py (.list ((placesL ms).map pN))), .own (.py (.list (((List.range k).map fun k => pN (lowD row ms k)) ++ [v]))), x, y] := fun x y v e =>
      (hn _ ⟨x, y, by rw [e, List.range_succ, List.map_append]; rfl⟩).1
    have hd : lowD row ms k = match mateOf row k with
      | some m => if (!nearB row ms k && leadB ms k) = true then ms.idxOf m + 1 else 0
      | none => 0 := rfl
    simp [kindS_leads]
    cases hm : mateOf row k with
    | none =>
      rw [hm] at hd
      simp only at hd
      simp [oN]
      exact ⟨by omega, step _ _ _ (by rw [hd]; rfl)⟩
    | some m =>
      rw [hm] at hd
      simp only at hd
      have hmr := (mateOf_lt hm).1
      have ha := places_at (ms := ms) (m := m) (by omega)
      simp [oN]
      cases hN : nearB row ms k <;> cases hL : leadB ms k <;> rw [hN, hL] at hd <;> simp at hd ⊢
      · exact ⟨by omega, step _ _ _ (by rw [hd]; rfl)⟩
      · refine ⟨_, ha, ?_⟩
        simp [pN]
        exact ⟨by omega, step _ _ _ (by rw [hd]; rfl)⟩
      · exact ⟨by omega, step _ _ _ (by rw [hd]; rfl)⟩
      · exact ⟨by omega, step _ _ _ (by rw [hd]; rfl)⟩
  · obtain ⟨x, y, rfl⟩ := iv
    simp at q ⊢
    simpa [lowsL, Function.comp_def] using q
theorem l_greatest_counts : ∀ ds Q E, S_greatest_counts ds Q E → t_greatest_counts S_places_in S_kinds_of S_mates (envOf 8 ds) (fin Q E) := by
  rintro ds Q E ⟨row, p, rfl, h0, h1, q1, q2⟩
  simp [t_greatest_counts, -forGo, -S_kinds_of, -S_places_in, -S_mates]
  refine ⟨row, p, rfl, h0, h1, fun ms e hp => ?_, q2⟩
  subst e
  have q := q1 ms rfl hp
  have hl := perm_len hp
  refine ⟨ms, true, rfl, by omega, by rw [hl]; exact hp, ?_⟩
  simp [matesP, -forGo]
  refine ⟨by omega, ?_⟩
  have ez : zip3P ((kindL row ms).map PyData.str) ((matesL row).map oN) ((placesL ms).map pN) = (List.range row.length).map fun k => PyData.tuple [PyData.str (kindS (nearB row ms k) (leadB ms k)), oN (mateOf row k), pN (ms.idxOf k)] := by
    rw [kindL_map, matesL_map, placesL_map hl, zip_range3]
  rw [ez, kindL_map]
  refine for_enc (fun k => PyData.tuple [PyData.str (kindS (nearB row ms k) (leadB ms k)), oN (mateOf row k), pN (ms.idxOf k)]) (fun i ρ => ∃ (x y z : VL.Slot), ρ = [.shr (.py (tI row)), .shr (.py (tN ms)), .shr (.py (.tuple ((List.range row.length).map fun k => PyData.str (kindS (nearB row ms k) (leadB ms k))))), .shr (.py (.list ((placesL ms).map pN))), .own (.py (.list ((List.range i).map fun k => pN (highD row ms k)))), x, y, z])
    ⟨_, _, _, rfl⟩ (fun i k ρ hk iv nx ct hn => ?_) (fun ρ iv => ?_)
  · obtain ⟨x, y, z, rfl⟩ := iv
    obtain ⟨rfl, hk⟩ := range_get hk
    have step : ∀ (x y z : VL.Slot) v, v = pN (highD row ms k) → nx [.shr (.py (tI row)), .shr (.py (tN ms)), .shr (.py (.tuple ((List.range row.length).map fun k => PyData.str (kindS (nearB row ms k) (leadB ms k))))), .shr (.py (.list ((placesL ms).map pN))), .own (.py (.list (((List.range k).map fun k => pN (highD row ms k)) ++ [v]))), x, y, z] := fun x y z v e =>
      (hn _ ⟨x, y, z, by rw [e, List.range_succ, List.map_append]; rfl⟩).1
    have hd : highD row ms k = match mateOf row k with
      | some m => if (nearB row ms k && !leadB ms k) = true then ms.idxOf m else ms.idxOf k
      | none => ms.idxOf k := rfl
    have hnn : mateOf row k = none → nearB row ms k = false := fun e => by unfold nearB; rw [e]
    simp [kindS_near]
    cases hm : mateOf row k with
    | none =>
      rw [hm] at hd
      simp only at hd
      simp [oN, hnn hm]
      exact ⟨by omega, step _ _ _ _ (by rw [hd])⟩
    | some m =>
      rw [hm] at hd
      simp only at hd
      have hmr := (mateOf_lt hm).1
      have ha := places_at (ms := ms) (m := m) (by omega)
      simp [oN]
      cases hN : nearB row ms k <;> cases hL : leadB ms k <;> rw [hN, hL] at hd <;> simp at hd ⊢
      · exact ⟨by omega, step _ _ _ _ (by rw [hd])⟩
      · exact ⟨by omega, step _ _ _ _ (by rw [hd])⟩
      · exact ⟨_, ha, by omega, step _ _ _ _ (by rw [hd])⟩
      · exact ⟨by omega, step _ _ _ _ (by rw [hd])⟩
  · obtain ⟨x, y, z, rfl⟩ := iv
    simp at q ⊢
    simpa [highsL, Function.comp_def] using q
/-! ### clashes -/
theorem lows_at {row : List Int} {ms : List Nat} {k : Nat} (h : k < row.length) : atI ((lowsL row ms).map pN) (k : Int) = some (pN (lowD row ms k)) := atI_map (by unfold lowsL; rw [List.getElem?_map, List.getElem?_range h]; rfl)
theorem highs_at {row : List Int} {ms : List Nat} {k : Nat} (h : k < row.length) : atI ((highsL row ms).map pN) (k : Int) = some (pN (highD row ms k)) := atI_map (by unfold highsL; rw [List.getElem?_map, List.getElem?_range h]; rfl)
theorem clashN_succ (row : List Int) (ms : List Nat) (n : Nat) : clashN row ms (n + 1) = clashN row ms n ++ clashRow row ms n := by
  unfold clashN; rw [List.range_succ, List.flatMap_append]; simp
theorem clashRow_len (row : List Int) (ms : List Nat) (n : Nat) : (clashRow row ms n).length ≤ row.length := by
  unfold clashRow
  rw [List.length_map]
  have := List.length_filter_le (fun j => decide (highD row ms (n + 1 + j) < lowD row ms n)) (List.range (row.length - (n + 1)))
  rw [List.length_range] at this
  omega
theorem clashN_len (row : List Int) (ms : List Nat) (n : Nat) : (clashN row ms n).length ≤ row.length * n := by
  induction n with
  | zero => simp [clashN]
  | succ n ih =>
    have := clashRow_len row ms n
    rw [clashN_succ, List.length_append, Nat.mul_succ]
    omega
theorem clashN_le {row : List Int} {ms : List Nat} {n : Nat} (h1 : row.length ≤ 40) (hn : n ≤ row.length) : (clashN row ms n).length ≤ 1600 :=
  Nat.le_trans (clashN_len row ms n) (Nat.le_trans (Nat.mul_le_mul h1 (Nat.le_trans hn h1)) (by decide))
@[simp] def S_clashes : SV := fun ds Q E => ∃ (row : List Int) (p : PyData), ds = [.py (tI row), .py p] ∧ row ≠ [] ∧ row.length ≤ 40 ∧ (∀ ms, p = tN ms → ms.Perm (List.range row.length) → Q (.py (.tuple ((clashL row ms).map pairP)))) ∧ (ordB row.length p = false → E ⟨"NoOrder", []⟩)
theorem l_clashes : ∀ ds Q E, S_clashes ds Q E → t_clashes S_greatest_counts S_least_counts (envOf 7 ds) (fin Q E) := by
  rintro ds Q E ⟨row, p, rfl, h0, h1, q1, q2⟩
  simp [t_clashes, -forGo, -lcGo, -S_least_counts, -S_greatest_counts]
  refine ⟨row, p, rfl, h0, h1, fun ms e hp => ?_, q2⟩
  subst e
  have q := q1 ms rfl hp
  have hl := perm_len hp
  refine ⟨row, _, rfl, h0, h1, fun ms' e _ => ?_, fun hb => by rw [ordB_tN hp] at hb; cases hb⟩
  obtain rfl := tN_inj.mp e
  simp [-forGo, -lcGo]
  refine ⟨by omega, ?_⟩
  rw [rangeP_eq]
  refine for_enc (encR 0) (fun i ρ => ∃ (x : VL.Slot), ρ = [.shr (.py (tI row)), .shr (.py (tN ms)), .shr (.py (.list ((lowsL row ms).map pN))), .shr (.py (.list ((highsL row ms).map pN))), .own (.py (.list ((clashN row ms i).map pairP))), x, .un])
    ⟨_, rfl⟩ (fun i k ρ hk iv nx ct hn => ?_) (fun ρ iv => ?_)
  · obtain ⟨x, rfl⟩ := iv
    obtain ⟨rfl, hk⟩ := range_get hk
    simp [-lcGo]
    rw [rangeP_eq, show ((row.length : Int) - ((k : Int) + 1)).toNat = row.length - (k + 1) by omega]
    have ha := lows_at (ms := ms) hk
    have hc := clashN_le (ms := ms) h1 (Nat.le_of_lt hk)
    have hr := clashRow_len row ms k
    refine ⟨⟨by simp only [small62]; omega, by omega⟩, ?_⟩
    refine lc_encF (encR ((k : Int) + 1)) (fun j => decide (highD row ms (k + 1 + j) < lowD row ms k)) (fun j => pairP (k, k + 1 + j)) (fun i j hj kk k1 k2 => ?_) (by simp; omega) ?_
    · obtain ⟨rfl, hj⟩ := range_get hj
      have hb := highs_at (row := row) (ms := ms) (k := k + 1 + j) (by omega)
      have ec : (k : Int) + 1 + (j : Int) = ((k + 1 + j : Nat) : Int) := by push_cast; rfl
      rw [← ec] at hb
      simp [lcStep, encR_eq]
      refine ⟨_, ha, _, hb, ?_⟩
      simp [pN]
      by_cases c : highD row ms (k + 1 + j) < lowD row ms k
      · simp [c] at k1 ⊢; exact k1
      · simp [c] at k2 ⊢; exact k2
    · simp
      refine ⟨?_, (hn _ ⟨.shr (.py (.int (k : Nat))), ?_⟩).1⟩
      · unfold clashRow at hr; rw [List.length_map] at hr; omega
      · rw [clashN_succ, List.map_append]
        unfold clashRow
        rw [List.map_map]
        rfl
  · obtain ⟨x, rfl⟩ := iv
    simp at q ⊢
    exact q
/-! ### the law's own look -/
@[simp] def S_j_wrong : SV := fun ds Q _ => ∃ (row : List Int) (ms : List Nat), ds = [.py (tI row), .py (tN ms)] ∧ row.length ≤ 40 ∧ ms.Perm (List.range row.length) ∧ Q (.py (.list ((wrongL row ms).map pN)))
def demP (row : List Int) (ms : List Nat) (k : Nat) : PyData := .tuple [pN (lowD row ms k), pN (highD row ms k)]
@[simp] def S_j_demands : SV := fun ds Q _ => ∃ (row : List Int) (ms : List Nat), ds = [.py (tI row), .py (tN ms)] ∧ row.length ≤ 40 ∧ ms.Perm (List.range row.length) ∧ Q (.py (.list ((List.range row.length).map (demP row ms))))
@[simp] def S_j_clashes : SV := fun ds Q _ => ∃ (row : List Int) (ms : List Nat), ds = [.py (tI row), .py (tN ms)] ∧ row.length ≤ 40 ∧ ms.Perm (List.range row.length) ∧ Q (.py (.list ((clashL row ms).map pairP)))
/-! ### sizes -/
theorem clashL_lt {row : List Int} {ms : List Nat} {p : Nat × Nat} (h : p ∈ clashL row ms) : p.1 < p.2 ∧ p.2 < row.length ∧ highD row ms p.2 < lowD row ms p.1 := by
  unfold clashL clashN at h
  obtain ⟨a, ha, hp⟩ := List.mem_flatMap.mp h
  unfold clashRow at hp
  obtain ⟨j, hj, rfl⟩ := List.mem_map.mp hp
  obtain ⟨h1, h2⟩ := List.mem_filter.mp hj
  have h1 := List.mem_range.mp h1
  have ha := List.mem_range.mp ha
  exact ⟨by simp only; omega, by simp only; omega, by simpa using h2⟩
end LawP
set_option Elab.async false
set_option linter.all false
set_option maxRecDepth 100000
set_option maxHeartbeats 4000000
namespace LawP
open PySem PySem.Spec PyProof.Rows L2 VL
def t_stairs (S_greatest_counts : SV) (S_least_counts : SV) : VS :=
  (sSeq (sPar [2, 3] (mCons false (vCall S_least_counts (vCons (vVar 0) (vCons (vVar 1) vNil))) (mCons false (vCall S_greatest_counts (vCons (vVar 0) (vCons (vVar 1) vNil))) mNil)))
  (sSeq (sSet 4 (vCal gTuple (vCons (vLc [5] (iR1 (vCons (vCal gLen (vCons (vBor 2) vNil)) vNil)) (tgName 5) wYes (vCal gMax (vCons (vSl gSl (vBor 2) oNo (oAt (vBin gAdd (vBor 5) (vC (.py (.int 1)))))) vNil))) vNil)))
  (sRet (vTup (vCons (vVar 4) (vCons (vCal gTuple (vCons (vLc [5] (iR1 (vCons (vCal gLen (vCons (vBor 3) vNil)) vNil)) (tgName 5) wYes (vCal gMin (vCons (vSl gSl (vBor 3) (oAt (vBor 5)) oNo) vNil))) vNil)) vNil))))))
end LawP
set_option Elab.async false
set_option linter.all false
namespace LawP
open PySem VL
/-! ### lists: places, what is left of them -/
theorem split_at {l : List Nat} {x : Nat} (h : x ∈ l) : ∃ l1 l2, l = l1 ++ x :: l2 ∧ x ∉ l1 := by
  induction l with
  | nil => simp at h
  | cons y l ih =>
    by_cases e : x = y
    · subst e; exact ⟨[], l, rfl, by simp⟩
    · obtain ⟨l1, l2, rfl, hn⟩ := ih ((List.mem_cons.mp h).resolve_left e)
      exact ⟨y :: l1, l2, rfl, by simp [e, hn]⟩
theorem idx_split {l1 l2 : List Nat} {x : Nat} (h : x ∉ l1) : (l1 ++ x :: l2).idxOf x = l1.length := by
  induction l1 with
  | nil => simp
  | cons y l ih =>
    have : y ≠ x := fun e => h (by simp [e])
    have h2 : x ∉ l := fun m => h (List.mem_cons_of_mem _ m)
    rw [List.cons_append, List.idxOf_cons, beq_eq_false_iff_ne.mpr this]
    simp [ih h2]
theorem idx_left {l1 l2 : List Nat} {x : Nat} (h : x ∈ l1) : (l1 ++ l2).idxOf x = l1.idxOf x := by
  obtain ⟨p, q, rfl, hn⟩ := split_at h
  rw [List.append_assoc, List.cons_append, idx_split hn, idx_split hn]
theorem idx_lt_of {l1 l2 : List Nat} {x : Nat} (h : x ∈ l1) : (l1 ++ l2).idxOf x < l1.length := by
  rw [idx_left h]; exact List.idxOf_lt_length_of_mem h
theorem idx_right {l1 l2 : List Nat} {x : Nat} (h : x ∉ l1) : (l1 ++ l2).idxOf x = l1.length + l2.idxOf x := by
  induction l1 with
  | nil => simp
  | cons y l ih =>
    have : y ≠ x := fun e => h (by simp [e])
    have h2 : x ∉ l := fun m => h (List.mem_cons_of_mem _ m)
    rw [List.cons_append, List.idxOf_cons, beq_eq_false_iff_ne.mpr this]
    simp [ih h2]; omega
theorem split_uniq {a b c d : List Nat} {x : Nat} (e : a ++ x :: b = c ++ x :: d) (ha : x ∉ a) (hc : x ∉ c) : a = c ∧ b = d := by
  have h1 := idx_split (l2 := b) ha
  have h2 := idx_split (l2 := d) hc
  rw [e, h2] at h1
  have := List.append_inj e h1.symm
  exact ⟨this.1, by simpa using this.2⟩
theorem insAt_mid (a b : List Nat) (x : Nat) : insAt (a ++ b) a.length x = a ++ x :: b := by
  unfold insAt; simp
theorem insAt_end (a : List Nat) (x : Nat) : insAt a a.length x = a ++ [x] := by unfold insAt; simp
theorem insAt_perm (l : List Nat) (p x : Nat) : (insAt l p x).Perm (x :: l) := by
  unfold insAt
  refine List.perm_middle.trans ?_
  rw [List.take_append_drop]
theorem insAt_filter (l : List Nat) (p x : Nat) (f : Nat → Bool) (h : f x = false) : (insAt l p x).filter f = l.filter f := by
  unfold insAt
  rw [List.filter_append, List.filter_cons, h]
  simp only [Bool.false_eq_true, if_false]
  rw [← List.filter_append, List.take_append_drop]
/-! ### the line of all persons so far -/
def tpl (row : List Int) (c : Nat) (T : List Nat) (a : Nat) : Nat := match mateOf row a with
  | some m => if c ≤ T.idxOf m then T.idxOf m + 1 else T.length
  | none => T.length
def tq (row : List Int) (c : Nat → Nat) : Nat → List Nat
  | 0 => []
  | a + 1 => insAt (tq row c a) (tpl row (c a) (tq row c a) a) a
theorem tq_succ (row : List Int) (c : Nat → Nat) (a : Nat) : tq row c (a + 1) = insAt (tq row c a) (tpl row (c a) (tq row c a) a) a := rfl
theorem tq_perm (row : List Int) (c : Nat → Nat) (a : Nat) : (tq row c a).Perm (List.range a) := by
  induction a with
  | zero => exact .refl _
  | succ a ih =>
    rw [tq_succ, List.range_succ]
    exact (insAt_perm _ _ _).trans ((ih.cons a).trans (List.perm_append_comm (l₁ := [a])))
theorem tq_len (row : List Int) (c : Nat → Nat) (a : Nat) : (tq row c a).length = a := perm_len (tq_perm row c a)
theorem tq_mem {row : List Int} {c : Nat → Nat} {a k : Nat} : k ∈ tq row c a ↔ k < a := perm_mem (tq_perm row c a)
theorem tq_filter {row : List Int} {c : Nat → Nat} {a : Nat} : ∀ d, (tq row c (a + d)).filter (fun k => decide (k < a)) = tq row c a
  | 0 => by
    rw [Nat.add_zero, List.filter_eq_self]
    intro k hk
    exact decide_eq_true (tq_mem.mp hk)
  | d + 1 => by
    rw [← Nat.add_assoc, tq_succ, insAt_filter _ _ _ _ (by simp), tq_filter d]
theorem tq_filter' {row : List Int} {c : Nat → Nat} {a n : Nat} (h : a ≤ n) : (tq row c n).filter (fun k => decide (k < a)) = tq row c a := by
  have := tq_filter (row := row) (c := c) (a := a) (n - a)
  rwa [Nat.add_sub_cancel' h] at this
/-- what is done by a word -/
theorem served_tq {row : List Int} {n : Nat} {c : Nat → Nat} : ∀ {w : List Nat} {a s : Nat} {sv ws : List Nat}, goodW n a s w → sv.length = s → sv ++ ws = tq row c a → a ≤ n → (∀ i x, (cntsL s w)[i]? = some x → c (a + i) = x) →
    sv ++ servedL (stepsL row a ws w) = tq row c n
  | [], a, s, sv, ws, ⟨h1, h2⟩, e1, e2, h3, hc => by
    have hl := congrArg List.length e2
    rw [List.length_append, tq_len] at hl
    have : ws = [] := List.length_eq_zero_iff.mp (by omega)
    subst this
    subst h1
    simpa [stepsL, servedL] using e2
  | d :: w, a, s, sv, ws, h, e1, e2, h3, hc => by
    have hl := congrArg List.length e2
    rw [List.length_append, tq_len] at hl
    rcases h with ⟨rfl, ha, h⟩ | ⟨rfl, ha, h⟩
    · rw [stepsL_a, servedL_a]
      rw [cntsL_a] at hc
      have hca : c a = s := hc 0 s rfl
      refine served_tq h e1 ?_ ha fun i x hx => ?_
      · rw [tq_succ, ← e2, hca]
        have hnd : (sv ++ ws).Nodup := by rw [e2]; exact perm_nodup (tq_perm row c a)
        have key : ∀ i, insAt (sv ++ ws) (sv.length + i) a = sv ++ insAt ws i a := fun i => by
          unfold insAt
          rw [List.take_append, List.drop_append, List.take_of_length_le (by omega), List.drop_of_length_le (by omega)]
          simp
        unfold joinQ joinPl tpl
        cases hm : mateOf row a with
        | none => simp only; rw [← key, List.length_append]
        | some m =>
          simp only
          have hma := (mateOf_lt hm).1
          have hmT : m ∈ sv ++ ws := by rw [e2]; exact tq_mem.mpr hma
          by_cases c1 : m ∈ ws
          · have c2 : m ∉ sv := fun c2 => (List.nodup_append.mp hnd).2.2 m c2 m c1 rfl
            rw [idx_right c2, if_pos c1, if_pos (by omega), ← key, Nat.add_assoc]
          · have c2 : m ∈ sv := (List.mem_append.mp hmT).resolve_right c1
            have := idx_lt_of (l2 := ws) c2
            rw [if_neg c1, if_neg (by omega), ← key, List.length_append]
      · rw [show a + 1 + i = a + (i + 1) by omega]
        exact hc (i + 1) x (by simpa using hx)
    · cases ws with
      | nil => simp at hl; omega
      | cons x ws =>
        rw [stepsL_s, servedL_s]
        rw [cntsL_s] at hc
        have := served_tq (row := row) (c := c) (sv := sv ++ [x]) (ws := ws) h (by simp [e1]) (by rw [List.append_assoc]; exact e2) h3 hc
        rw [List.append_assoc] at this
        exact this
def fnOf (cs : List Nat) (k : Nat) : Nat := cs.getD k 0
theorem ordL_tq {row : List Int} {w : List Nat} (h : HistW row.length w) : ordL row w = tq row (fnOf (cntsL 0 w)) row.length := by
  have := served_tq (row := row) (c := fnOf (cntsL 0 w)) (sv := []) (ws := []) h rfl rfl (Nat.zero_le _) (fun i x hx => by unfold fnOf; rw [Nat.zero_add, List.getD_eq_getElem?_getD, hx]; rfl)
  simpa [ordL] using this
end LawP
set_option Elab.async false
set_option linter.all false
namespace LawP
open PySem VL
/-! ### counts of words -/
theorem cntsL_len {n : Nat} : ∀ {w : List Nat} {a s : Nat}, goodW n a s w → a + (cntsL s w).length = n
  | [], a, s, h => by simp [cntsL]; exact h.1
  | c :: w, a, s, h => by
    rcases h with ⟨rfl, _, h⟩ | ⟨rfl, _, h⟩
    · have := cntsL_len h; rw [cntsL_a, List.length_cons]; omega
    · have := cntsL_len h; rw [cntsL_s]; exact this
theorem cntsL_ge : ∀ {w : List Nat} {s x : Nat}, x ∈ cntsL s w → s ≤ x
  | [], _, _, h => by simp [cntsL] at h
  | c :: w, s, x, h => by
    unfold cntsL at h
    split at h
    · rcases List.mem_cons.mp h with rfl | h
      · omega
      · exact cntsL_ge h
    · have := cntsL_ge h; omega
theorem cntsL_up : ∀ {w : List Nat} {s : Nat}, (cntsL s w).Pairwise (· ≤ ·)
  | [], _ => .nil
  | c :: w, s => by
    unfold cntsL
    split
    · exact .cons (fun x hx => cntsL_ge hx) cntsL_up
    · exact cntsL_up
theorem cntsL_le {n : Nat} : ∀ {w : List Nat} {a s i x : Nat}, goodW n a s w → s ≤ a → (cntsL s w)[i]? = some x → x ≤ a + i
  | [], _, _, _, _, _, _, h => by simp [cntsL] at h
  | c :: w, a, s, i, x, h, hs, hx => by
    rcases h with ⟨rfl, _, h⟩ | ⟨rfl, _, h⟩
    · rw [cntsL_a] at hx
      cases i with
      | zero => simp at hx; omega
      | succ i =>
        have := cntsL_le h (by omega) (by simpa using hx)
        omega
    · rw [cntsL_s] at hx
      exact cntsL_le h (by omega) hx
/-- counts of some history of n persons -/
structure CntOk (n : Nat) (cs : List Nat) : Prop where
  len : cs.length = n
  up : ∀ i j, i ≤ j → j < n → fnOf cs i ≤ fnOf cs j
  le : ∀ i, i < n → fnOf cs i ≤ i
theorem fnOf_get {cs : List Nat} {i : Nat} (h : i < cs.length) : fnOf cs i = cs[i] := by
  unfold fnOf
  rw [List.getD_eq_getElem?_getD, List.getElem?_eq_getElem h]; rfl
theorem HistW.cnt {n : Nat} {w : List Nat} (h : HistW n w) : CntOk n (cntsL 0 w) := by
  have hl : (cntsL 0 w).length = n := by have := cntsL_len h; omega
  refine ⟨hl, fun i j hij hj => ?_, fun i hi => ?_⟩
  · rw [fnOf_get (by omega), fnOf_get (by omega)]
    by_cases e : i = j
    · subst e; exact Nat.le_refl _
    · exact List.pairwise_iff_getElem.mp cntsL_up i j (by omega) (by omega) (by omega)
  · rw [fnOf_get (by omega)]
    have := cntsL_le h (Nat.le_refl _) (List.getElem?_eq_getElem (show i < (cntsL 0 w).length by omega))
    omega
/-- the word of some counts -/
def wordC (n : Nat) : Nat → List Nat → List Nat
  | s, [] => List.replicate (n - s) 115
  | s, c :: cs => List.replicate (c - s) 115 ++ 97 :: wordC n c cs
theorem goodW_reps {n : Nat} : ∀ {k a s : Nat} {w : List Nat}, s + k ≤ a → goodW n a (s + k) w → goodW n a s (List.replicate k 115 ++ w)
  | 0, _, _, _, _, h => h
  | k + 1, a, s, w, hk, h => by
    rw [List.replicate_succ, List.cons_append]
    exact .inr ⟨rfl, by omega, goodW_reps (by omega) (by rw [show s + 1 + k = s + (k + 1) by omega]; exact h)⟩
theorem cntsL_reps : ∀ {k s : Nat} {w : List Nat}, cntsL s (List.replicate k 115 ++ w) = cntsL (s + k) w
  | 0, _, _ => rfl
  | k + 1, s, w => by
    rw [List.replicate_succ, List.cons_append, cntsL_s, cntsL_reps]
    congr 1; omega
theorem wordC_good {n : Nat} : ∀ {cs : List Nat} {a s : Nat}, s ≤ a → a + cs.length = n → (∀ x ∈ cs, s ≤ x) → cs.Pairwise (· ≤ ·) → (∀ i x, cs[i]? = some x → x ≤ a + i) → goodW n a s (wordC n s cs)
  | [], a, s, h1, h2, _, _, _ => by
    have h2 : a = n := by simpa using h2
    subst h2
    have := goodW_reps (n := a) (k := a - s) (a := a) (s := s) (w := []) (by omega) ⟨rfl, by omega⟩
    simpa [wordC] using this
  | c :: cs, a, s, h1, h2, h3, h4, h5 => by
    have hc := h3 c List.mem_cons_self
    have hca := h5 0 c rfl
    rw [List.length_cons] at h2
    rw [List.pairwise_cons] at h4
    unfold wordC
    refine goodW_reps (by omega) ?_
    rw [show s + (c - s) = c by omega]
    exact .inl ⟨rfl, by omega, wordC_good (by omega) (by omega) h4.1 h4.2 fun i x hx => by have := h5 (i + 1) x (by simpa using hx); omega⟩
theorem cntsL_wordC {n : Nat} : ∀ {cs : List Nat} {s : Nat}, (∀ x ∈ cs, s ≤ x) → cs.Pairwise (· ≤ ·) → cntsL s (wordC n s cs) = cs
  | [], s, _, _ => by
    have := cntsL_reps (k := n - s) (s := s) (w := [])
    simpa [wordC, cntsL] using this
  | c :: cs, s, h3, h4 => by
    have hc := h3 c List.mem_cons_self
    rw [List.pairwise_cons] at h4
    unfold wordC
    rw [cntsL_reps, show s + (c - s) = c by omega, cntsL_a, cntsL_wordC h4.1 h4.2]
theorem CntOk.pair {n : Nat} {cs : List Nat} (h : CntOk n cs) : cs.Pairwise (· ≤ ·) := by
  rw [List.pairwise_iff_getElem]
  intro i j hi hj hij
  have := h.up i j (Nat.le_of_lt hij) (by rw [← h.len]; exact hj)
  rwa [fnOf_get hi, fnOf_get hj] at this
theorem CntOk.hist {n : Nat} {cs : List Nat} (h : CntOk n cs) : HistW n (wordC n 0 cs) := by
  refine wordC_good (Nat.le_refl _) (by rw [h.len]; omega) (fun _ _ => Nat.zero_le _) h.pair fun i x hx => ?_
  have hi := (List.getElem?_eq_some_iff.mp hx).1
  have := h.le i (by rw [← h.len]; exact hi)
  rw [fnOf_get hi, (List.getElem?_eq_some_iff.mp hx).2] at this
  omega
theorem CntOk.cnts {n : Nat} {cs : List Nat} (h : CntOk n cs) : cntsL 0 (wordC n 0 cs) = cs := cntsL_wordC (fun _ _ => Nat.zero_le _) h.pair
end LawP
set_option Elab.async false
set_option linter.all false
namespace LawP
open PySem VL
/-! ### a history has an order exactly if its counts meet the demands -/
structure Fits (row : List Int) (ms : List Nat) (c : Nat → Nat) : Prop where
  kd : ∀ k, k < row.length → nearB row ms k = true ∨ leadB ms k = true
  lo : ∀ k, k < row.length → lowD row ms k ≤ c k
  hi : ∀ k, k < row.length → c k ≤ highD row ms k
theorem near_iff {row : List Int} {ms : List Nat} {k : Nat} : nearB row ms k = true ↔ ∃ m, mateOf row k = some m ∧ ms.idxOf k = ms.idxOf m + 1 := by
  unfold nearB
  cases mateOf row k with
  | none => simp
  | some m => simp
theorem lead_iff {ms : List Nat} {k : Nat} : leadB ms k = true ↔ ∀ j, j < k → ms.idxOf j < ms.idxOf k := by
  unfold leadB
  rw [List.all_eq_true]
  constructor
  · intro h j hj
    simpa using h j (List.mem_range.mpr hj)
  · intro h j hj
    simpa using h j (List.mem_range.mp hj)
theorem filt_idx {l : List Nat} {f : Nat → Bool} {x : Nat} (hx : x ∈ l) (hf : f x = true) : (l.filter f).idxOf x ≤ l.idxOf x := by
  obtain ⟨l1, l2, rfl, hn⟩ := split_at hx
  rw [List.filter_append, List.filter_cons, hf, if_pos rfl, idx_split hn, idx_split (fun m => hn (List.mem_filter.mp m).1)]
  exact List.length_filter_le _ _
/-- an order is what its counts make of it -/
theorem fits_tq {row : List Int} {ms : List Nat} {c : Nat → Nat} (hp : ms.Perm (List.range row.length)) (hf : Fits row ms c) (hup : ∀ i j, i ≤ j → j < row.length → c i ≤ c j) : tq row c row.length = ms := by
  have hnd := perm_nodup hp
  have go : ∀ a, a ≤ row.length → tq row c a = ms.filter fun k => decide (k < a) := by
    intro a
    induction a with
    | zero => intro _; simp [tq]
    | succ a ih =>
      intro ha
      have ih := ih (by omega)
      have ham : a ∈ ms := (perm_mem hp).mpr ha
      obtain ⟨l1, l2, e, hn1⟩ := split_at ham
      have ia : ms.idxOf a = l1.length := by rw [e]; exact idx_split hn1
      have hn2 : a ∉ l2 := by rw [e] at hnd; exact (List.nodup_cons.mp (List.nodup_append.mp hnd).2.1).1
      have f1 : ∀ l : List Nat, a ∉ l → l.filter (fun k => decide (k < a + 1)) = l.filter fun k => decide (k < a) := fun l h => by
        refine List.filter_congr fun k hk => ?_
        have : k ≠ a := fun e => h (e ▸ hk)
        by_cases c1 : k < a
        · simp [c1, Nat.lt_succ_of_lt c1]
        · simp [c1]; omega
      have eF : ms.filter (fun k => decide (k < a)) = l1.filter (fun k => decide (k < a)) ++ l2.filter (fun k => decide (k < a)) := by
        rw [e, List.filter_append, List.filter_cons]; simp
      have eF1 : ms.filter (fun k => decide (k < a + 1)) = l1.filter (fun k => decide (k < a)) ++ a :: l2.filter (fun k => decide (k < a)) := by
        rw [e, List.filter_append, List.filter_cons, f1 _ hn1, f1 _ hn2]; simp
      rw [tq_succ, ih, eF1]
      have lF : (ms.filter fun k => decide (k < a)).length = a := by rw [← ih]; exact tq_len _ _ _
      have fin : ∀ j, j = (l1.filter fun k => decide (k < a)).length → insAt (ms.filter fun k => decide (k < a)) j a = l1.filter (fun k => decide (k < a)) ++ a :: l2.filter (fun k => decide (k < a)) := fun j hj => by
        rw [hj, eF, insAt_mid]
      refine fin _ ?_
      have lead : leadB ms a = true → (l1.filter fun k => decide (k < a)).length = a := fun hl => by
        have e2 : l2.filter (fun k => decide (k < a)) = [] := by
          rw [List.filter_eq_nil_iff]
          intro k hk c1
          have c1 : k < a := by simpa using c1
          have := lead_iff.mp hl k c1
          have hk1 : k ∉ l1 := fun h => by
            rw [e] at hnd
            exact (List.nodup_append.mp hnd).2.2 k h k (List.mem_cons_of_mem _ hk) rfl
          rw [ia, e, idx_right hk1] at this
          omega
        rw [eF, e2, List.append_nil] at lF
        exact lF
      unfold tpl
      cases hm : mateOf row a with
      | none =>
        simp only
        rcases hf.kd a ha with h | h
        · obtain ⟨m, h1, _⟩ := near_iff.mp h
          rw [hm] at h1; cases h1
        · rw [lF, lead h]
      | some m =>
        simp only
        have hma := (mateOf_lt hm).1
        have hmm : m ∈ ms := (perm_mem hp).mpr (by omega)
        have fm := filt_idx (f := fun k => decide (k < a)) hmm (by simpa using hma)
        by_cases hN : nearB row ms a = true
        · obtain ⟨m', h1, h2⟩ := near_iff.mp hN
          rw [hm] at h1
          cases h1
          -- the mate ends l1
          have hne : l1 ≠ [] := fun e3 => by rw [e3] at ia; simp at ia; omega
          obtain ⟨l0, z, e0⟩ : ∃ l0 z, l1 = l0 ++ [z] := ⟨l1.dropLast, l1.getLast hne, (List.dropLast_concat_getLast hne).symm⟩
          have hz : z = m := by
            have i1 : ms.idxOf m = l0.length := by rw [e0] at ia; simp at ia; omega
            have g := idx_get hmm
            rw [i1, e, e0] at g
            simpa using g
          subst hz
          have hz0 : z ∉ l0 := fun h => by
            rw [e, e0] at hnd
            exact (List.nodup_append.mp (List.nodup_append.mp hnd).1).2.2 z h z (by simp) rfl
          have im : ms.idxOf z = l0.length := by rw [e0] at ia; simp at ia; omega
          have e1 : l1.filter (fun k => decide (k < a)) = l0.filter (fun k => decide (k < a)) ++ [z] := by
            rw [e0, List.filter_append]; simp [hma]
          have iF : (ms.filter fun k => decide (k < a)).idxOf z = (l0.filter fun k => decide (k < a)).length := by
            rw [eF, e1, List.append_assoc]
            exact idx_split fun h => hz0 (List.mem_filter.mp h).1
          rw [iF, e1, List.length_append, List.length_singleton]
          by_cases hL : leadB ms a = true
          · have := lead hL
            rw [e1, List.length_append, List.length_singleton] at this
            split
            · rfl
            · rw [lF]; omega
          · rw [if_pos]
            have hh := hf.hi a ha
            unfold highD at hh
            rw [hm] at hh
            have hL' : leadB ms a = false := by simpa using hL
            simp [hN, hL'] at hh
            rw [im] at hh
            refine Nat.le_of_not_lt fun hlt => ?_
            -- the first later person ahead of the mate
            have hex : ∃ b ∈ l0, ¬ b < a := by
              refine Classical.byContradiction fun hno => ?_
              have : l0.filter (fun k => decide (k < a)) = l0 := by
                rw [List.filter_eq_self]
                intro k hk
                refine decide_eq_true (Classical.byContradiction fun c1 => hno ⟨k, hk, c1⟩)
              rw [this] at hlt
              omega
            obtain ⟨b, p1, p2, e4, hb, hp1⟩ : ∃ b p1 p2, l0 = p1 ++ b :: p2 ∧ ¬ b < a ∧ ∀ k ∈ p1, k < a := by
              clear iF e1 fin lead eF eF1 im hz0 hlt hh
              revert hex
              generalize l0 = L
              intro hex
              induction L with
              | nil => obtain ⟨b, hb, _⟩ := hex; simp at hb
              | cons y L ihL =>
                by_cases c1 : y < a
                · obtain ⟨b, hb, hb2⟩ := hex
                  rcases List.mem_cons.mp hb with rfl | hb
                  · exact absurd c1 hb2
                  · obtain ⟨b, p1, p2, e, h1, h2⟩ := ihL ⟨b, hb, hb2⟩
                    refine ⟨b, y :: p1, p2, by rw [e]; rfl, h1, fun k hk => ?_⟩
                    rcases List.mem_cons.mp hk with rfl | hk
                    · exact c1
                    · exact h2 k hk
                · exact ⟨y, [], L, rfl, c1, by simp⟩
            have hbm : b ∈ ms := by rw [e, e0, e4]; simp
            have hbn : b < row.length := (perm_mem hp).mp hbm
            have hb1 : b ∉ p1 := fun h => hb (hp1 b h)
            have ib : ms.idxOf b = p1.length := by
              rw [e, e0, e4]
              simp only [List.append_assoc, List.cons_append]
              exact idx_split hb1
            have hba : b ≠ a := fun h => by
              subst h
              exact hn1 (by rw [e0, e4]; simp)
            have hbL : leadB ms b = false := by
              cases hx : leadB ms b with
              | false => rfl
              | true =>
                have := lead_iff.mp hx z (by omega)
                rw [im, ib, e4, List.length_append] at this
                omega
            have hbN : nearB row ms b = true := (hf.kd b hbn).resolve_right (by rw [hbL]; simp)
            obtain ⟨m2, h5, h6⟩ := near_iff.mp hbN
            have hhb := hf.hi b hbn
            unfold highD at hhb
            rw [h5] at hhb
            simp [hbN, hbL] at hhb
            have hcab := hup a b (by omega) hbn
            have : (l0.filter fun k => decide (k < a)).length ≥ p1.length := by
              have e7 : p1.filter (fun k => decide (k < a)) = p1 := by
                rw [List.filter_eq_self]; intro k hk; exact decide_eq_true (hp1 k hk)
              rw [e4, List.filter_append, e7, List.length_append]; omega
            omega
        · have hN' : nearB row ms a = false := by simpa using hN
          have hL := (hf.kd a ha).resolve_left hN
          have hlo := hf.lo a ha
          unfold lowD at hlo
          rw [hm] at hlo
          simp [hN', hL] at hlo
          rw [if_neg (by omega), lF, lead hL]
  rw [go _ (Nat.le_refl _), List.filter_eq_self]
  intro k hk
  exact decide_eq_true ((perm_mem hp).mp hk)
/-- .. and the counts of a history meet the demands of its order -/
theorem idx_insAt {T : List Nat} {p b m : Nat} (h1 : T.idxOf m < p) (hm : m ∈ T) : (insAt T p b).idxOf m = T.idxOf m := by
  obtain ⟨l1, l2, rfl, hn⟩ := split_at hm
  rw [idx_split hn] at h1 ⊢
  unfold insAt
  obtain ⟨q, rfl⟩ : ∃ q, p = l1.length + 1 + q := ⟨p - (l1.length + 1), by omega⟩
  rw [List.take_append, List.take_of_length_le (by omega), show l1.length + 1 + q - l1.length = q + 1 by omega, List.take_succ_cons, List.append_assoc, List.cons_append]
  exact idx_split hn
theorem tpl_some {row : List Int} {c a m : Nat} {T : List Nat} (h : mateOf row a = some m) : tpl row c T a = if c ≤ T.idxOf m then T.idxOf m + 1 else T.length := by unfold tpl; rw [h]
theorem tpl_none {row : List Int} {c a : Nat} {T : List Nat} (h : mateOf row a = none) : tpl row c T a = T.length := by unfold tpl; rw [h]
theorem tpl_gt {row : List Int} {c a : Nat} {T : List Nat} (h : c ≤ T.length) : c ≤ tpl row c T a := by
  cases hm : mateOf row a with
  | none => rw [tpl_none hm]; exact h
  | some m => rw [tpl_some hm]; split <;> omega
/-- whoever stands ahead of the count stays there -/
theorem tq_fix {row : List Int} {c : Nat → Nat} {a m : Nat} (hma : m < a) (hlt : (tq row c a).idxOf m < c a) : ∀ d, a + d ≤ row.length → (∀ i j, i ≤ j → j < row.length → c i ≤ c j) → (∀ i, i < row.length → c i ≤ i) → (tq row c (a + d)).idxOf m = (tq row c a).idxOf m
  | 0, _, _, _ => rfl
  | d + 1, hd, hup, hle => by
    have ih := tq_fix hma hlt d (by omega) hup hle
    rw [← Nat.add_assoc, tq_succ, idx_insAt _ (tq_mem.mpr (by omega)), ih]
    rw [ih]
    have h1 := hup a (a + d) (by omega) (by omega)
    have h2 := hle (a + d) (by omega)
    have hmT : m ∈ tq row c (a + d) := tq_mem.mpr (by omega)
    have := List.idxOf_lt_length_of_mem hmT
    cases hm : mateOf row (a + d) with
    | none => rw [tpl_none hm]; omega
    | some m2 => rw [tpl_some hm]; split <;> omega
theorem mate_uniq {row : List Int} {a b m : Nat} (ha : mateOf row a = some m) (hb : mateOf row b = some m) : a = b := by
  have key : ∀ a b, mateOf row a = some m → mateOf row b = some m → a < b → False := fun a b ha hb h => by
    obtain ⟨g, hg⟩ : ∃ g, row[a]? = some g := ⟨row[a]'(mateOf_lt ha).2, List.getElem?_eq_getElem _⟩
    obtain ⟨g', hg'⟩ : ∃ g, row[b]? = some g := ⟨row[b]'(mateOf_lt hb).2, List.getElem?_eq_getElem _⟩
    rw [mateOf_at hg] at ha
    rw [mateOf_at hg'] at hb
    obtain ⟨a1, a2, a3⟩ := lastIn_some ha
    obtain ⟨b1, b2, b3⟩ := lastIn_some hb
    have : g = g' := by rw [a2] at b2; exact Option.some.inj b2
    subst this
    exact b3 a a1 h hg
  rcases Nat.lt_trichotomy a b with h | h | h
  · exact (key a b ha hb h).elim
  · exact h
  · exact (key b a hb ha h).elim
theorem insAt_pair {X Y : List Nat} {m a p b : Nat} (h : p ≠ X.length + 1) : ∃ X' Y', insAt (X ++ m :: a :: Y) p b = X' ++ m :: a :: Y' := by
  unfold insAt
  by_cases c : p ≤ X.length
  · refine ⟨X.take p ++ b :: X.drop p, Y, ?_⟩
    rw [List.take_append_of_le_length c, List.drop_append_of_le_length c, List.append_assoc]; rfl
  · obtain ⟨q, rfl⟩ : ∃ q, p = X.length + (q + 2) := ⟨p - (X.length + 2), by omega⟩
    refine ⟨X, Y.take q ++ b :: Y.drop q, ?_⟩
    rw [List.take_length_add_append, List.drop_length_add_append]
    simp
/-- who joins stays right behind the mate -/
theorem tq_pair {row : List Int} {c : Nat → Nat} {a m : Nat} (hm : mateOf row a = some m) (hj : c a ≤ (tq row c a).idxOf m) : ∀ d, ∃ X Y, tq row c (a + 1 + d) = X ++ m :: a :: Y
  | 0 => by
    have hmT : m ∈ tq row c a := tq_mem.mpr (mateOf_lt hm).1
    obtain ⟨l1, l2, e, hn⟩ := split_at hmT
    refine ⟨l1, l2, ?_⟩
    rw [Nat.add_zero, tq_succ, tpl_some hm, if_pos hj, e, idx_split hn]
    have := insAt_mid (l1 ++ [m]) l2 a
    rw [List.length_append, List.length_singleton, List.append_assoc, List.append_assoc] at this
    exact this
  | d + 1 => by
    obtain ⟨X, Y, e⟩ := tq_pair hm hj d
    rw [← Nat.add_assoc, tq_succ]
    have hp : tpl row (c (a + 1 + d)) (tq row c (a + 1 + d)) (a + 1 + d) ≠ X.length + 1 := by
      have hnd := perm_nodup (tq_perm row c (a + 1 + d))
      cases h2 : mateOf row (a + 1 + d) with
      | none => rw [tpl_none h2, e]; simp
      | some m2 =>
        rw [tpl_some h2]
        split
        · intro h
          have hm2 : m2 ∈ tq row c (a + 1 + d) := tq_mem.mpr (mateOf_lt h2).1
          have g := idx_get hm2
          have : (tq row c (a + 1 + d)).idxOf m2 = X.length := by omega
          rw [this, e] at g
          simp at g
          subst g
          have := mate_uniq hm h2
          omega
        · rw [e]; simp
    rw [e] at hp ⊢
    exact insAt_pair hp
theorem tq_fits {row : List Int} {c : Nat → Nat} (hup : ∀ i j, i ≤ j → j < row.length → c i ≤ c j) (hle : ∀ i, i < row.length → c i ≤ i) : Fits row (tq row c row.length) c := by
  have hpn := tq_perm row c row.length
  have hnd := perm_nodup hpn
  -- one person
  have key : ∀ a, a < row.length → (nearB row (tq row c row.length) a = true ∨ leadB (tq row c row.length) a = true) ∧ lowD row (tq row c row.length) a ≤ c a ∧ c a ≤ highD row (tq row c row.length) a := by
    intro a ha
    have ham : a ∈ tq row c row.length := tq_mem.mpr ha
    have fa := tq_filter' (row := row) (c := c) (a := a + 1) (n := row.length) ha
    have own : c a ≤ (tq row c row.length).idxOf a := by
      refine Nat.le_trans ?_ (filt_idx (f := fun k => decide (k < a + 1)) ham (by simp))
      rw [fa, tq_succ]
      have hc := hle a ha
      have hnT : a ∉ tq row c a := fun h => by have := tq_mem.mp h; omega
      have h1 := tpl_gt (row := row) (a := a) (T := tq row c a) (c := c a) (by rw [tq_len]; exact hc)
      refine Nat.le_trans h1 ?_
      unfold insAt
      rw [idx_right fun h => hnT (List.mem_of_mem_take h)]
      simp
      have : tpl row (c a) (tq row c a) a ≤ (tq row c a).length := by
        cases hm : mateOf row a with
        | none => rw [tpl_none hm]; exact Nat.le_refl _
        | some m =>
          rw [tpl_some hm]
          have := List.idxOf_lt_length_of_mem (tq_mem (row := row) (c := c).mpr (mateOf_lt hm).1)
          split <;> omega
      omega
    have lead : tpl row (c a) (tq row c a) a = (tq row c a).length → leadB (tq row c row.length) a = true := fun h => by
      rw [tq_succ, h, insAt_end] at fa
      obtain ⟨l1, l2, e, hn⟩ := split_at ham
      rw [e, List.filter_append, List.filter_cons] at fa
      simp only [Nat.lt_succ_self, decide_true, if_true] at fa
      have hnT : a ∉ tq row c a := fun h => by have := tq_mem.mp h; omega
      have u := split_uniq (b := l2.filter fun k => decide (k < a + 1)) (d := []) fa (fun m => hn (List.mem_filter.mp m).1) hnT
      refine lead_iff.mpr fun k hk => ?_
      have hkm : k ∈ tq row c row.length := tq_mem.mpr (by omega)
      rw [e] at hkm ⊢
      rw [idx_split hn]
      have : k ∈ l1 := by
        rcases List.mem_append.mp hkm with h1 | h1
        · exact h1
        · rcases List.mem_cons.mp h1 with h1 | h1
          · omega
          · have : k ∈ l2.filter fun k => decide (k < a + 1) := List.mem_filter.mpr ⟨h1, decide_eq_true (by omega)⟩
            rw [u.2] at this; simp at this
      exact idx_lt_of this
    cases hm : mateOf row a with
    | none =>
      refine ⟨.inr (lead (tpl_none hm)), ?_, ?_⟩
      · unfold lowD; rw [hm]; exact Nat.zero_le _
      · unfold highD; rw [hm]; exact own
    | some m =>
      have hma := (mateOf_lt hm).1
      have hmm : m ∈ tq row c row.length := tq_mem.mpr (by omega)
      have le_m : (tq row c a).idxOf m ≤ (tq row c row.length).idxOf m := by
        have := filt_idx (f := fun k => decide (k < a)) hmm (by simpa using hma)
        rwa [tq_filter' (Nat.le_of_lt ha)] at this
      by_cases hj : c a ≤ (tq row c a).idxOf m
      · obtain ⟨X, Y, e⟩ := tq_pair hm hj (row.length - (a + 1))
        rw [show a + 1 + (row.length - (a + 1)) = row.length by omega] at e
        have hN : nearB row (tq row c row.length) a = true := by
          refine near_iff.mpr ⟨m, hm, ?_⟩
          have hmX : m ∉ X := fun h => by rw [e] at hnd; exact (List.nodup_append.mp hnd).2.2 m h m (by simp) rfl
          have haX : a ∉ X ++ [m] := fun h => by
            rw [e, show X ++ m :: a :: Y = (X ++ [m]) ++ a :: Y by simp] at hnd
            exact (List.nodup_append.mp hnd).2.2 a h a (by simp) rfl
          rw [e, idx_split hmX, show X ++ m :: a :: Y = (X ++ [m]) ++ a :: Y by simp, idx_split haX]
          simp
        refine ⟨.inl hN, ?_, ?_⟩
        · unfold lowD; rw [hm]; simp [hN]
        · unfold highD; rw [hm]
          simp only
          split
          · omega
          · exact own
      · have hL := lead (by rw [tpl_some hm, if_neg hj])
        have hfx := tq_fix (row := row) (c := c) hma (Nat.lt_of_not_le hj) (row.length - a) (by omega) hup hle
        rw [show a + (row.length - a) = row.length by omega] at hfx
        refine ⟨.inr hL, ?_, ?_⟩
        · unfold lowD; rw [hm]
          simp only
          split <;> omega
        · unfold highD; rw [hm]
          simp [hL]; exact own
  exact ⟨fun k hk => (key k hk).1, fun k hk => (key k hk).2.1, fun k hk => (key k hk).2.2⟩
end LawP
set_option Elab.async false
set_option linter.all false
namespace LawP
open PySem VL
/-! ### stairs: the least and the greatest counts -/
def maxTo (f : Nat → Nat) : Nat → Nat
  | 0 => f 0
  | k + 1 => max (maxTo f k) (f (k + 1))
def minFrom (f : Nat → Nat) (k : Nat) : Nat → Nat
  | 0 => f k
  | d + 1 => min (minFrom f k d) (f (k + d + 1))
theorem maxTo_ge (f : Nat → Nat) : ∀ {k j : Nat}, j ≤ k → f j ≤ maxTo f k
  | 0, j, h => by have : j = 0 := by omega
                  subst this; exact Nat.le_refl _
  | k + 1, j, h => by
    unfold maxTo
    by_cases e : j = k + 1
    · subst e; omega
    · have := maxTo_ge f (k := k) (j := j) (by omega); omega
theorem maxTo_mem (f : Nat → Nat) : ∀ k, ∃ j, j ≤ k ∧ maxTo f k = f j
  | 0 => ⟨0, Nat.le_refl _, rfl⟩
  | k + 1 => by
    obtain ⟨j, h1, h2⟩ := maxTo_mem f k
    unfold maxTo
    by_cases c : maxTo f k ≤ f (k + 1)
    · exact ⟨k + 1, Nat.le_refl _, by omega⟩
    · exact ⟨j, by omega, by omega⟩
theorem minFrom_le (f : Nat → Nat) (k : Nat) : ∀ {d j : Nat}, j ≤ d → minFrom f k d ≤ f (k + j)
  | 0, j, h => by have : j = 0 := by omega
                  subst this; exact Nat.le_refl _
  | d + 1, j, h => by
    unfold minFrom
    by_cases e : j = d + 1
    · subst e; rw [← Nat.add_assoc]; omega
    · have := minFrom_le f k (d := d) (j := j) (by omega); omega
theorem minFrom_mem (f : Nat → Nat) (k : Nat) : ∀ d, ∃ j, j ≤ d ∧ minFrom f k d = f (k + j)
  | 0 => ⟨0, Nat.le_refl _, rfl⟩
  | d + 1 => by
    obtain ⟨j, h1, h2⟩ := minFrom_mem f k d
    unfold minFrom
    by_cases c : minFrom f k d ≤ f (k + d + 1)
    · exact ⟨j, by omega, by omega⟩
    · exact ⟨d + 1, Nat.le_refl _, by rw [← Nat.add_assoc]; omega⟩
def loS (row : List Int) (ms : List Nat) (k : Nat) : Nat := maxTo (lowD row ms) k
def hiS (row : List Int) (ms : List Nat) (k : Nat) : Nat := minFrom (highD row ms) k (row.length - 1 - k)
theorem loS_ge {row : List Int} {ms : List Nat} {j k : Nat} (h : j ≤ k) : lowD row ms j ≤ loS row ms k := maxTo_ge _ h
theorem loS_mem (row : List Int) (ms : List Nat) (k : Nat) : ∃ j, j ≤ k ∧ loS row ms k = lowD row ms j := maxTo_mem _ k
theorem hiS_le {row : List Int} {ms : List Nat} {j k : Nat} (h : k ≤ j) (hj : j < row.length) : hiS row ms k ≤ highD row ms j := by
  have := minFrom_le (highD row ms) k (d := row.length - 1 - k) (j := j - k) (by omega)
  rwa [show k + (j - k) = j by omega] at this
theorem hiS_mem {row : List Int} {ms : List Nat} {k : Nat} (hk : k < row.length) : ∃ j, k ≤ j ∧ j < row.length ∧ hiS row ms k = highD row ms j := by
  obtain ⟨j, h1, h2⟩ := minFrom_mem (highD row ms) k (row.length - 1 - k)
  exact ⟨k + j, by omega, by omega, h2⟩
theorem loS_up {row : List Int} {ms : List Nat} {i j : Nat} (h : i ≤ j) : loS row ms i ≤ loS row ms j := by
  obtain ⟨k, h1, h2⟩ := loS_mem row ms i
  rw [h2]; exact loS_ge (by omega)
theorem hiS_up {row : List Int} {ms : List Nat} {i j : Nat} (h : i ≤ j) (hj : j < row.length) : hiS row ms i ≤ hiS row ms j := by
  obtain ⟨k, h1, h2, h3⟩ := hiS_mem (ms := ms) hj
  rw [h3]; exact hiS_le (by omega) h2
theorem high_le (row : List Int) (ms : List Nat) (k : Nat) : highD row ms k ≤ ms.idxOf k := by
  unfold highD
  cases hm : mateOf row k with
  | none => exact Nat.le_refl _
  | some m =>
    simp only
    split
    · rename_i h
      simp at h
      obtain ⟨m', h1, h2⟩ := near_iff.mp h.1
      rw [hm] at h1; cases h1; omega
    · exact Nat.le_refl _
theorem low_high (row : List Int) (ms : List Nat) (k : Nat) : lowD row ms k ≤ highD row ms k := by
  unfold lowD highD
  cases hm : mateOf row k with
  | none => simp
  | some m =>
    simp only
    split
    · rename_i h
      simp at h
      rw [h.1]
      simp
      exact lead_iff.mp h.2 m (mateOf_lt hm).1
    · exact Nat.zero_le _
/-- the order is possible: no reason against it -/
def Poss (row : List Int) (ms : List Nat) : Prop := wrongL row ms = [] ∧ clashL row ms = []
theorem wrongL_nil {row : List Int} {ms : List Nat} : wrongL row ms = [] ↔ ∀ k, k < row.length → nearB row ms k = true ∨ leadB ms k = true := by
  unfold wrongL
  rw [List.filter_eq_nil_iff]
  constructor
  · intro h k hk
    have := h k (List.mem_range.mpr hk)
    revert this
    generalize nearB row ms k = a
    generalize leadB ms k = b
    cases a <;> cases b <;> simp
  · intro h k hk
    rcases h k (List.mem_range.mp hk) with e | e <;> simp [e]
theorem mem_clashL {row : List Int} {ms : List Nat} {a b : Nat} : (a, b) ∈ clashL row ms ↔ a < b ∧ b < row.length ∧ highD row ms b < lowD row ms a := by
  constructor
  · exact fun h => clashL_lt h
  · rintro ⟨h1, h2, h3⟩
    unfold clashL clashN
    refine List.mem_flatMap.mpr ⟨a, List.mem_range.mpr (by omega), ?_⟩
    unfold clashRow
    refine List.mem_map.mpr ⟨b - (a + 1), List.mem_filter.mpr ⟨List.mem_range.mpr (by omega), ?_⟩, ?_⟩
    · rw [show a + 1 + (b - (a + 1)) = b by omega]; simpa using h3
    · rw [show a + 1 + (b - (a + 1)) = b by omega]
theorem clashL_nil {row : List Int} {ms : List Nat} : clashL row ms = [] ↔ ∀ a b, a < b → b < row.length → lowD row ms a ≤ highD row ms b := by
  constructor
  · intro h a b h1 h2
    refine Nat.le_of_not_lt fun h3 => ?_
    have := mem_clashL.mpr ⟨h1, h2, h3⟩
    rw [h] at this; simp at this
  · intro h
    refine List.eq_nil_iff_forall_not_mem.mpr fun p hp => ?_
    have := clashL_lt hp
    have := h p.1 p.2 this.1 this.2.1
    omega
theorem Fits.poss {row : List Int} {ms : List Nat} {c : Nat → Nat} (hf : Fits row ms c) (hup : ∀ i j, i ≤ j → j < row.length → c i ≤ c j) : Poss row ms := by
  refine ⟨wrongL_nil.mpr hf.kd, clashL_nil.mpr fun a b h1 h2 => ?_⟩
  have := hf.lo a (by omega)
  have := hf.hi b h2
  have := hup a b (by omega) h2
  omega
theorem Poss.le {row : List Int} {ms : List Nat} (h : Poss row ms) {i j : Nat} (hij : i ≤ j) (hj : j < row.length) : lowD row ms i ≤ highD row ms j := by
  by_cases e : i = j
  · subst e; exact low_high row ms i
  · exact clashL_nil.mp h.2 i j (by omega) hj
theorem Poss.stairs {row : List Int} {ms : List Nat} (h : Poss row ms) {k : Nat} (hk : k < row.length) : loS row ms k ≤ hiS row ms k := by
  obtain ⟨i, h1, h2⟩ := loS_mem row ms k
  obtain ⟨j, h3, h4, h5⟩ := hiS_mem (ms := ms) hk
  rw [h2, h5]
  exact h.le (by omega) h4
theorem nodup_le : ∀ {ks ns : List Nat}, ks.Nodup → (∀ j, j ∈ ks → j ∈ ns) → ks.length ≤ ns.length
  | [], ns, _, _ => Nat.zero_le _
  | k :: ks, ns, hn, hs => by
    rw [List.nodup_cons] at hn
    have hk : k ∈ ns := hs k List.mem_cons_self
    have := nodup_le (ks := ks) (ns := ns.erase k) hn.2 fun j hj => by
      have ne : j ≠ k := fun e => hn.1 (e ▸ hj)
      exact (List.mem_erase_of_ne ne).mpr (hs j (List.mem_cons_of_mem _ hj))
    rw [List.length_erase_of_mem hk] at this
    have := List.length_pos_of_mem hk
    rw [List.length_cons]; omega
theorem hiS_le_self {row : List Int} {ms : List Nat} (hp : ms.Perm (List.range row.length)) {k : Nat} (hk : k < row.length) : hiS row ms k ≤ k := by
  have hl := perm_len hp
  obtain ⟨j, hj, hkj⟩ : ∃ j ∈ ms.take (k + 1), ¬ j < k := by
    refine Classical.byContradiction fun hno => ?_
    have hs : ∀ j ∈ ms.take (k + 1), j ∈ List.range k := fun j hj => List.mem_range.mpr (Classical.byContradiction fun c => hno ⟨j, hj, c⟩)
    have := nodup_le ((perm_nodup hp).sublist (List.take_sublist _ _)) hs
    rw [List.length_take, List.length_range] at this
    omega
  have hjm : j ∈ ms := List.mem_of_mem_take hj
  have hjn := (perm_mem hp).mp hjm
  have h1 := hiS_le (ms := ms) (show k ≤ j by omega) hjn
  have h2 := high_le row ms j
  have h3 : ms.idxOf j < k + 1 := by
    have := idx_lt_of (l2 := ms.drop (k + 1)) hj
    rw [List.take_append_drop, List.length_take] at this
    omega
  omega
def csHi (row : List Int) (ms : List Nat) : List Nat := (List.range row.length).map (hiS row ms)
def csLo (row : List Int) (ms : List Nat) : List Nat := (List.range row.length).map (loS row ms)
theorem fnOf_map {n k : Nat} (f : Nat → Nat) (h : k < n) : fnOf ((List.range n).map f) k = f k := by
  rw [fnOf_get (by simpa using h)]; simp
theorem csHi_ok {row : List Int} {ms : List Nat} (hp : ms.Perm (List.range row.length)) : CntOk row.length (csHi row ms) := by
  refine ⟨by simp [csHi], fun i j h1 h2 => ?_, fun i hi => ?_⟩
  · unfold csHi; rw [fnOf_map _ (by omega), fnOf_map _ h2]; exact hiS_up h1 h2
  · unfold csHi; rw [fnOf_map _ hi]; exact hiS_le_self hp hi
theorem csLo_ok {row : List Int} {ms : List Nat} (hp : ms.Perm (List.range row.length)) (h : Poss row ms) : CntOk row.length (csLo row ms) := by
  refine ⟨by simp [csLo], fun i j h1 h2 => ?_, fun i hi => ?_⟩
  · unfold csLo; rw [fnOf_map _ (by omega), fnOf_map _ h2]; exact loS_up h1
  · unfold csLo; rw [fnOf_map _ hi]; exact Nat.le_trans (h.stairs hi) (hiS_le_self hp hi)
theorem csHi_fits {row : List Int} {ms : List Nat} (h : Poss row ms) : Fits row ms (fnOf (csHi row ms)) := by
  refine ⟨wrongL_nil.mp h.1, fun k hk => ?_, fun k hk => ?_⟩
  · unfold csHi; rw [fnOf_map _ hk]; exact Nat.le_trans (loS_ge (Nat.le_refl k)) (h.stairs hk)
  · unfold csHi; rw [fnOf_map _ hk]; exact hiS_le (Nat.le_refl k) hk
theorem csLo_fits {row : List Int} {ms : List Nat} (h : Poss row ms) : Fits row ms (fnOf (csLo row ms)) := by
  refine ⟨wrongL_nil.mp h.1, fun k hk => ?_, fun k hk => ?_⟩
  · unfold csLo; rw [fnOf_map _ hk]; exact loS_ge (Nat.le_refl k)
  · unfold csLo; rw [fnOf_map _ hk]; exact Nat.le_trans (h.stairs hk) (hiS_le (Nat.le_refl k) hk)
/-- histories and orders -/
theorem ord_iff {row : List Int} {ms w : List Nat} (hp : ms.Perm (List.range row.length)) (hw : HistW row.length w) : ordL row w = ms ↔ Fits row ms (fnOf (cntsL 0 w)) := by
  have hc := hw.cnt
  rw [ordL_tq hw]
  constructor
  · intro e
    have := tq_fits (row := row) (c := fnOf (cntsL 0 w)) hc.up hc.le
    rwa [e] at this
  · exact fun h => fits_tq hp h hc.up
theorem ord_word {row : List Int} {ms cs : List Nat} (hp : ms.Perm (List.range row.length)) (hc : CntOk row.length cs) (hf : Fits row ms (fnOf cs)) : HistW row.length (wordC row.length 0 cs) ∧ ordL row (wordC row.length 0 cs) = ms :=
  ⟨hc.hist, (ord_iff hp hc.hist).mpr (by rw [hc.cnts]; exact hf)⟩
theorem poss_iff {row : List Int} {ms : List Nat} (hp : ms.Perm (List.range row.length)) : Poss row ms ↔ ∃ w, HistW row.length w ∧ ordL row w = ms := by
  constructor
  · intro h
    exact ⟨_, ord_word hp (csHi_ok hp) (csHi_fits h)⟩
  · rintro ⟨w, hw, e⟩
    exact ((ord_iff hp hw).mp e).poss hw.cnt.up
theorem hist_poss {row : List Int} {w : List Nat} (hw : HistW row.length w) : Poss row (ordL row w) := (poss_iff (ordL_perm hw)).mpr ⟨w, hw, rfl⟩
/-- between the stairs -/
theorem Fits.between {row : List Int} {ms : List Nat} {c : Nat → Nat} (hf : Fits row ms c) (hup : ∀ i j, i ≤ j → j < row.length → c i ≤ c j) {k : Nat} (hk : k < row.length) : loS row ms k ≤ c k ∧ c k ≤ hiS row ms k := by
  obtain ⟨i, h1, h2⟩ := loS_mem row ms k
  obtain ⟨j, h3, h4, h5⟩ := hiS_mem (ms := ms) hk
  rw [h2, h5]
  have := hf.lo i (by omega)
  have := hup i k h1 hk
  have := hf.hi j h4
  have := hup k j h3 h4
  omega
end LawP
set_option Elab.async false
set_option linter.all false
namespace LawP
open PySem VL
/-! ### histories, tested -/
def goodB (n : Nat) : Nat → Nat → List Nat → Bool
  | a, s, [] => decide (a = n) && decide (s = n)
  | a, s, c :: w => (decide (c = 97) && (decide (a < n) && goodB n (a + 1) s w)) || (decide (c = 115) && (decide (s < a) && goodB n a (s + 1) w))
def histB (n : Nat) (p : PyData) : Bool := match p with
  | .str z => goodB n 0 0 (sl z)
  | _ => false
end LawP
set_option Elab.async false
set_option linter.all false
set_option maxRecDepth 100000
set_option maxHeartbeats 4000000
namespace LawP
open PySem PySem.Spec PyProof.Rows L2 VL
/-! ### stairs -/
theorem maxL_to (f : Nat → Nat) (k : Nat) : maxL ((List.range (k + 1)).map fun j => (f j : Int)) = (maxTo f k : Nat) := by
  have hne : (List.range (k + 1)).map (fun j => (f j : Int)) ≠ [] := by simp
  obtain ⟨h1, h2⟩ := maxL_spec _ hne
  obtain ⟨j, hj, e⟩ := List.mem_map.mp h1
  have hj := List.mem_range.mp hj
  obtain ⟨i, hi, e2⟩ := maxTo_mem f k
  have a := maxTo_ge f (k := k) (j := j) (by omega)
  have b := h2 (f i : Int) (List.mem_map.mpr ⟨i, List.mem_range.mpr (by omega), rfl⟩)
  omega
theorem minL_from (f : Nat → Nat) (k d : Nat) : minL ((List.range (d + 1)).map fun j => (f (k + j) : Int)) = (minFrom f k d : Nat) := by
  have hne : (List.range (d + 1)).map (fun j => (f (k + j) : Int)) ≠ [] := by simp
  obtain ⟨h1, h2⟩ := minL_spec _ hne
  obtain ⟨j, hj, e⟩ := List.mem_map.mp h1
  have hj := List.mem_range.mp hj
  obtain ⟨i, hi, e2⟩ := minFrom_mem f k d
  have a := minFrom_le f k (d := d) (j := j) (by omega)
  have b := h2 (f (k + i) : Int) (List.mem_map.mpr ⟨i, List.mem_range.mpr (by omega), rfl⟩)
  omega
@[simp] def S_stairs : SV := fun ds Q E => ∃ (row : List Int) (p : PyData), ds = [.py (tI row), .py p] ∧ row ≠ [] ∧ row.length ≤ 40 ∧ (∀ ms, p = tN ms → ms.Perm (List.range row.length) → Q (.py (.tuple [tN (csLo row ms), tN (csHi row ms)]))) ∧ (ordB row.length p = false → E ⟨"NoOrder", []⟩)
theorem take_range (n k : Nat) (h : k ≤ n) : (List.range n).take k = List.range k := by
  rw [List.take_range]; congr 1; omega
theorem drop_map_range {α : Type} (f : Nat → α) (n k : Nat) : ((List.range n).map f).drop k = (List.range (n - k)).map fun j => f (k + j) := by
  refine List.ext_getElem? fun i => ?_
  rw [List.getElem?_drop, List.getElem?_map, List.getElem?_map]
  by_cases h : i < n - k
  · rw [List.getElem?_range h, List.getElem?_range (by omega)]; rfl
  · rw [List.getElem?_eq_none (by simp; omega), List.getElem?_eq_none (by simp; omega)]; rfl
theorem l_stairs : ∀ ds Q E, S_stairs ds Q E → t_stairs S_greatest_counts S_least_counts (envOf 6 ds) (fin Q E) := by
  rintro ds Q E ⟨row, p, rfl, h0, h1, q1, q2⟩
  simp [t_stairs, -lcGo, -S_least_counts, -S_greatest_counts]
  refine ⟨row, p, rfl, h0, h1, fun ms e hp => ?_, q2⟩
  subst e
  have q := q1 ms rfl hp
  refine ⟨row, tN ms, rfl, h0, h1, fun ms' e _ => ?_, fun hb => by rw [ordB_tN hp] at hb; cases hb⟩
  obtain rfl := tN_inj.mp e
  have ll : (lowsL row ms).length = row.length := by simp [lowsL]
  have hl : (highsL row ms).length = row.length := by simp [highsL]
  simp [-lcGo, ll, hl]
  refine ⟨by omega, ?_⟩
  rw [rangeP_eq]
  refine lc_encM (encR 0) (fun k => pN (loS row ms k)) (fun i k hk kk k1 => ?_) (by simp; omega) ?_
  · obtain ⟨rfl, hk⟩ := range_get hk
    simp [lcStep]
    have ec : cutL ((lowsL row ms).map pN) none (some ((k : Int) + 1)) = ((List.range (k + 1)).map (lowD row ms)).map pN := by
      rw [cutL_take _ (by omega), ← List.map_take, show ((k : Int) + 1).toNat = k + 1 by omega]
      unfold lowsL
      rw [← List.map_take, take_range _ _ (by omega)]
    rw [ec]
    refine ⟨_, allI_pN _, by simp, ?_⟩
    rw [List.map_map]
    have := maxL_to (lowD row ms) k
    simp only [Function.comp_def]
    rw [this]
    exact k1
  · simp [-lcGo, hl]
    refine ⟨by omega, ?_⟩
    refine lc_encM' (encR 0) (fun k => pN (hiS row ms k)) (fun i k hk kk k1 => ?_) (by simp; omega) ?_
    · obtain ⟨rfl, hk⟩ := range_get hk
      simp [lcStep]
      have ec : cutL ((highsL row ms).map pN) (some (k : Int)) none = ((List.range (row.length - 1 - k + 1)).map fun j => highD row ms (k + j)).map pN := by
        rw [cutL_drop _ (by omega), ← List.map_drop, show (k : Int).toNat = k by omega]
        unfold highsL
        rw [drop_map_range, show row.length - 1 - k + 1 = row.length - k by omega]
      rw [ec]
      refine ⟨_, allI_pN _, by simp, ?_⟩
      rw [List.map_map]
      have := minL_from (highD row ms) k (row.length - 1 - k)
      simp only [Function.comp_def]
      rw [this]
      exact k1
    · simp at q ⊢
      simpa [csLo, csHi, Function.comp_def] using q
/-! ### the word of some counts -/
@[simp] def S_o_word_with : SV := fun ds Q _ => ∃ cs : List Nat, ds = [.py (tN cs)] ∧ cs.length ≤ 1000 ∧ (∀ c ∈ cs, c ≤ 1000) ∧ Q (.py (.str (mkS (wordC cs.length 0 cs))))
/-! ### verdict -/
def verdP (row : List Int) (ms : List Nat) : PyData := match wrongL row ms with
  | k :: _ => .tuple [.str "place", pN k]
  | [] => match clashL row ms with
    | c :: _ => .tuple [.str "clash", pN c.1, pN c.2]
    | [] => .tuple [.str "history", .str (mkS (wordC row.length 0 (csHi row ms)))]
@[simp] def S_verdict : SV := fun ds Q E => ∃ (row : List Int) (p : PyData), ds = [.py (tI row), .py p] ∧ row ≠ [] ∧ row.length ≤ 40 ∧ (∀ ms, p = tN ms → ms.Perm (List.range row.length) → Q (.py (verdP row ms))) ∧ (ordB row.length p = false → E ⟨"NoOrder", []⟩)
/-! ### the law's own look at words, all orders -/
@[simp] def S_j_is_word : SV := fun ds Q _ => ∃ (n : Nat) (p : PyData), ds = [.py (.int (n : Nat)), .py p] ∧ n ≤ 1000 ∧ (∀ z, p = .str z → z.length ≤ 100000) ∧ Q (.py (.bool (histB n p)))
@[simp] def S_j_all_orders : SV := fun ds Q _ => ∃ n : Nat, ds = [.py (.int (n : Nat))] ∧ 1 ≤ n ∧ n ≤ 5 ∧ ∀ L : List (List Nat), (∀ ms ∈ L, ms.Perm (List.range n)) → L.length ≤ 7776 → Q (.py (.list (L.map tN)))
end LawP
set_option Elab.async false
set_option linter.all false
set_option maxRecDepth 100000
set_option maxHeartbeats 4000000
namespace LawP
open PySem PySem.Spec PyProof.Rows L2 VL
def t_is_possible (S_clashes : SV) (S_misplaced : SV) : VS :=
  (sRet (vAnd (vBin gEq (vCall S_misplaced (vCons (vVar 0) (vCons (vVar 1) vNil))) (vTup vNil)) (vBin gEq (vCall S_clashes (vCons (vVar 0) (vCons (vVar 1) vNil))) (vTup vNil))))
end LawP
set_option Elab.async false
set_option linter.all false
namespace LawP
open PySem VL
/-! ### all histories, letter by letter -/
theorem okP_goodW {n : Nat} : ∀ {w : List Nat} {a s : Nat}, okP n a s w → w.length + a + s = 2 * n → a ≤ n → s ≤ a → goodW n a s w
  | [], a, s, _, h1, h2, h3 => by simp at h1; exact ⟨by omega, by omega⟩
  | c :: w, a, s, h, h1, h2, h3 => by
    simp at h1
    rcases h with ⟨e, ha, h⟩ | ⟨e, ha, h⟩
    · exact .inl ⟨e, ha, okP_goodW h (by omega) (by omega) (by omega)⟩
    · exact .inr ⟨e, ha, okP_goodW h (by omega) (by omega) (by omega)⟩
theorem okP_snoc {n c : Nat} : ∀ {w : List Nat} {a s : Nat}, okP n a s (w ++ [c]) ↔ okP n a s w ∧ ((c = 97 ∧ a + w.count 97 < n) ∨ (c = 115 ∧ s + w.count 115 < a + w.count 97))
  | [], a, s => by simp [okP]
  | d :: w, a, s => by
    rw [List.cons_append]
    constructor
    · rintro (⟨rfl, ha, h⟩ | ⟨rfl, ha, h⟩)
      · obtain ⟨h1, h2⟩ := okP_snoc.mp h
        refine ⟨.inl ⟨rfl, ha, h1⟩, ?_⟩
        rw [List.count_cons_self, List.count_cons_of_ne (by decide)]
        rcases h2 with ⟨e, h2⟩ | ⟨e, h2⟩
        · exact .inl ⟨e, by omega⟩
        · exact .inr ⟨e, by omega⟩
      · obtain ⟨h1, h2⟩ := okP_snoc.mp h
        refine ⟨.inr ⟨rfl, ha, h1⟩, ?_⟩
        rw [List.count_cons_self, List.count_cons_of_ne (by decide)]
        rcases h2 with ⟨e, h2⟩ | ⟨e, h2⟩
        · exact .inl ⟨e, by omega⟩
        · exact .inr ⟨e, by omega⟩
    · rintro ⟨⟨rfl, ha, h⟩ | ⟨rfl, ha, h⟩, h2⟩
      · rw [List.count_cons_self, List.count_cons_of_ne (by decide)] at h2
        refine .inl ⟨rfl, ha, okP_snoc.mpr ⟨h, ?_⟩⟩
        rcases h2 with ⟨e, h2⟩ | ⟨e, h2⟩
        · exact .inl ⟨e, by omega⟩
        · exact .inr ⟨e, by omega⟩
      · rw [List.count_cons_self, List.count_cons_of_ne (by decide)] at h2
        refine .inr ⟨rfl, ha, okP_snoc.mpr ⟨h, ?_⟩⟩
        rcases h2 with ⟨e, h2⟩ | ⟨e, h2⟩
        · exact .inl ⟨e, by omega⟩
        · exact .inr ⟨e, by omega⟩
theorem okP_le {n : Nat} {w : List Nat} (h : okP n 0 0 w) : w.count 115 ≤ w.count 97 ∧ w.count 97 ≤ n := by
  rcases List.eq_nil_or_concat w with rfl | ⟨v, c, rfl⟩
  · simp
  · rw [List.concat_eq_append] at h ⊢
    obtain ⟨h1, h2⟩ := okP_snoc.mp h
    have ih := okP_le h1
    rw [List.count_append, List.count_append]
    rcases h2 with ⟨rfl, h2⟩ | ⟨rfl, h2⟩
    · simp; omega
    · simp; omega
termination_by w.length
decreasing_by subst_vars; simp
theorem hist_okP {n : Nat} {w : List Nat} : HistW n w ↔ okP n 0 0 w ∧ w.length = 2 * n :=
  ⟨fun h => ⟨goodW_okP h, h.len⟩, fun h => okP_goodW h.1 (by omega) (Nat.zero_le _) (Nat.le_refl _)⟩
end LawP
set_option Elab.async false
set_option linter.all false
set_option maxRecDepth 100000
set_option maxHeartbeats 4000000
namespace LawP
open PySem PySem.Spec PyProof.Rows L2 VL
def possB (row : List Int) (ms : List Nat) : Bool := (wrongL row ms).isEmpty && (clashL row ms).isEmpty
theorem possB_iff {row : List Int} {ms : List Nat} : possB row ms = true ↔ Poss row ms := by
  unfold possB Poss
  rw [Bool.and_eq_true, List.isEmpty_iff, List.isEmpty_iff]
@[simp] def S_is_possible : SV := fun ds Q E => ∃ (row : List Int) (p : PyData), ds = [.py (tI row), .py p] ∧ row ≠ [] ∧ row.length ≤ 40 ∧ (∀ ms, p = tN ms → ms.Perm (List.range row.length) → Q (.py (.bool (possB row ms)))) ∧ (ordB row.length p = false → E ⟨"NoOrder", []⟩)
theorem l_is_possible : ∀ ds Q E, S_is_possible ds Q E → t_is_possible S_clashes S_misplaced (envOf 2 ds) (fin Q E) := by
  rintro ds Q E ⟨row, p, rfl, h0, h1, q1, q2⟩
  simp [t_is_possible, -S_clashes, -S_misplaced]
  refine ⟨row, p, rfl, h0, h1, fun ms e hp => ?_, q2⟩
  subst e
  have q := q1 ms rfl hp
  unfold possB at q
  cases hw : (wrongL row ms).isEmpty with
  | false =>
    rw [hw] at q
    simp [hw]
    simpa using q
  | true =>
    rw [hw] at q
    simp [hw, -S_clashes]
    refine ⟨row, tN ms, rfl, h0, h1, fun ms' e _ => ?_, q2⟩
    obtain rfl := tN_inj.mp e
    simpa using q
@[simp] def S_j_words : SV := fun ds Q _ => ∃ n : Nat, ds = [.py (.int (n : Nat))] ∧ n ≤ 10 ∧ ∀ L : List (List Nat), (∀ w, w ∈ L ↔ HistW n w) → L.length ≤ 2 ^ (2 * n) → Q (.py (.list (L.map fun w => PyData.str (mkS w))))
/-! ### lists of orders -/
end LawP
set_option Elab.async false
set_option linter.all false
set_option maxRecDepth 100000
set_option maxHeartbeats 4000000
namespace LawP
open PySem PySem.Spec PyProof.Rows L2 VL
def t_c_row (S_law_wind : SV) : VS :=
  (sSeq (sSet 2 (vBin gIx (vLst (vCons (vC (.py (.int 1))) (vCons (vC (.py (.int 2))) (vCons (vC (.py (.int 3))) (vCons (vC (.py (.int 5))) (vCons (vBin gPow (vC (.py (.int 10))) (vC (.py (.int 9)))) vNil)))))) (vCall S_law_wind (vCons (vVar 0) (vCons (vC (.py (.int 5))) vNil)))))
  (sRet (vCal gTuple (vCons (vLc [3] (iR1 (vCons (vBin gAdd (vC (.py (.int 1))) (vCall S_law_wind (vCons (vVar 0) (vCons (vVar 1) vNil)))) vNil)) (tgName 3) wYes (vCall S_law_wind (vCons (vVar 0) (vCons (vVar 2) vNil)))) vNil))))
def t_c_mates : VS :=
  (sSeq (sSetN 1 (vLst vNil))
  (sSeq (sFor (iR1 (vCons (vCal gLen (vCons (vBor 0) vNil)) vNil)) (tgName 2)
  (sSeq (sSet 3 (vLc [4] (iR1 (vCons (vBor 2) vNil)) (tgName 4) (vTst (vBin gEq (vBin gIx (vBor 0) (vBor 4)) (vBin gIx (vBor 0) (vBor 2)))) (vVar 4)))
  (sMut 1 gApp (vCons (vIf (vTst (vBin gNe (vBor 3) (vLst vNil))) (vBin gIx (vBor 3) (vUn gNeg (vC (.py (.int 1))))) (vC (.py .none))) vNil))))
  (sFrz 1 (sRet (vVar 1)))))
def t_c_come : VS :=
  (sSeq (sIf (vTst (vBin (gIn true) (vBor 2) (vBor 0)))
  (sRet (vBin gAdd (vBor 0) (vLst (vCons (vVar 1) vNil))))
  sNext)
  (sSeq (sSet 3 (vMth isSq gIndex (vBor 0) (vCons (vBor 2) vNil)))
  (sRet (vBin gAdd (vBin gAdd (vSl gSl (vBor 0) oNo (oAt (vBin gAdd (vBor 3) (vC (.py (.int 1)))))) (vLst (vCons (vVar 1) vNil))) (vSl gSl (vBor 0) (oAt (vBin gAdd (vBor 3) (vC (.py (.int 1))))) oNo)))))
end LawP
set_option Elab.async false
set_option linter.all false
set_option maxRecDepth 100000
set_option maxHeartbeats 4000000
namespace LawP
open PySem PySem.Spec PyProof.Rows L2 VL
end LawP
set_option Elab.async false
set_option linter.all false
set_option maxRecDepth 100000
set_option maxHeartbeats 4000000
namespace LawP
open PySem PySem.Spec PyProof.Rows L2 VL
/-! ### queue_with -/
theorem ex_pN (ws : List Nat) (m : Option Nat) : (∃ x, x ∈ ws ∧ (pN x).eqv (oN m) = true) ↔ ∃ k, m = some k ∧ k ∈ ws := by
  constructor
  · rintro ⟨x, hx, e⟩
    cases m with
    | none => simp [pN, oN, PyData.eqv] at e
    | some k =>
      simp [pN, oN] at e
      have : x = k := by omega
      subst this
      exact ⟨_, rfl, hx⟩
  · rintro ⟨k, rfl, hk⟩
    exact ⟨k, hk, by simp [pN, oN]⟩
theorem plain_pN (ws : List Nat) : PyData.plainAll (ws.map pN) = true := by
  have : ws.map pN = (ws.map fun (n : Nat) => (n : Int)).map PyData.int := by rw [List.map_map]; rfl
  rw [this, plainAll_ints]
theorem depth_pN (ws : List Nat) : PyData.depthAll (ws.map pN) = 0 := by
  induction ws with
  | nil => rfl
  | cons w ws ih => rw [List.map_cons, depthAll_cons, ih]; rfl
theorem ix_pN {ws : List Nat} {k : Nat} (h : k ∈ ws) : ixOf (ws.map pN) (.int (k : Int)) = some (ws.idxOf k) := by
  induction ws with
  | nil => simp at h
  | cons w ws ih =>
    rw [List.map_cons, ixOf, List.idxOf_cons]
    by_cases e : w = k
    · have e1 : (pN w).eqv (.int (k : Int)) = true := by subst e; simp [pN]
      rw [if_pos e1, e]; simp
    · have e1 : ¬ (pN w).eqv (.int (k : Int)) = true := by simp [pN]; omega
      have e2 : (w == k) = false := beq_eq_false_iff_ne.mpr e
      have hk : k ∈ ws := by rcases List.mem_cons.mp h with h | h; exact absurd h.symm e; exact h
      rw [if_neg e1, ih hk, e2]; rfl
@[simp] def S_queue_with : SV := fun ds Q _ => ∃ (ws : List Nat) (p : Nat) (m : Option Nat), ds = [.py (tN ws), .py (pN p), .py (oN m)] ∧ ws.length ≤ 100000 ∧ Q (.py (tN (joinQ ws p m)))
theorem oN_plain (m : Option Nat) : (oN m).plain = true := by cases m <;> rfl
theorem oN_depth (m : Option Nat) : (oN m).depth = 0 := by cases m <;> rfl
/-! ### steps_of -/
def stepP (p : Nat × Nat × List Nat) : PyData := .tuple [.str (mkS [p.1]), pN p.2.1, tN p.2.2]
@[simp] def S_steps_of : SV := fun ds Q _ => ∃ (row : List Int) (w : List Nat), ds = [.py (tI row), .py (.str (mkS w))] ∧ row.length ≤ 1000 ∧ w.length ≤ 100000 ∧ okP row.length 0 0 w ∧ Q (.py (.list ((stepsL row 0 [] w).map stepP)))
theorem drop_at {α : Type} {w : List α} {k : Nat} {c : α} (hc : w[k]? = some c) : w.drop k = c :: w.drop (k + 1) := by
  have hk := (List.getElem?_eq_some_iff.mp hc).1
  rw [List.drop_eq_getElem_cons hk]
  congr 1
  exact (List.getElem?_eq_some_iff.mp hc).2
/-! ### check_word, run -/
@[simp] def S_check_word : SV
  | [.py (.tuple xs), .py p], Q, E => isSm p ∧ (wErr xs.length p = .none → Q (.py .none)) ∧ (wErr xs.length p ≠ .none → E ⟨"BadWord", [("error", wErr xs.length p)]⟩)
  | _, _, _ => False
def runP (row : List Int) (w : List Nat) : PyData := .tuple [tN (servedL (stepsL row 0 [] w)), tN (waitL (stepsL row 0 [] w))]
@[simp] def S_run : SV := fun ds Q E => ∃ (row : List Int) (p : PyData), ds = [.py (tI row), .py p] ∧ row.length ≤ 1000 ∧ isSm p ∧ (∀ w, p = .str (mkS w) → okP row.length 0 0 w → Q (.py (runP row w))) ∧ (wErr row.length p ≠ .none → E ⟨"BadWord", [("error", wErr row.length p)]⟩)
/-! ### the law's own queue -/
@[simp] def S_law_played : SV := fun ds Q _ => ∃ (row : List Int) (w : List Nat), ds = [.py (tI row), .py (.str (mkS w))] ∧ row.length ≤ 1000 ∧ w.length ≤ 100000 ∧ okP row.length 0 0 w ∧
  Q (.py (.list [tN (servedL (stepsL row 0 [] w)), tN (waitL (stepsL row 0 [] w)), .list ((stepsL row 0 [] w).map stepP)]))
/-! ### sizes -/
end LawP
set_option Elab.async false
set_option linter.all false
set_option maxRecDepth 100000
set_option maxHeartbeats 4000000
namespace LawP
open PySem PySem.Spec PyProof.Rows L2 VL
/-! ### drawn rows, odd values -/
@[simp] def S_c_row (r : Addr) : SV
  | [.raw v, .py (.int m)], Q, _ => v = .ref r ∧ 1 ≤ m ∧ m ≤ 40 ∧ ∀ gs : List Int, gs ≠ [] → gs.length ≤ m → (∀ g ∈ gs, 0 ≤ g ∧ g ≤ 1000000000) → Q (.py (tI gs))
  | _, _, _ => False
def okGC (p : PyData) : Prop := ∃ g : Int, p = .int g ∧ 0 ≤ g ∧ g ≤ 1000000000
theorem okGC_list : ∀ {ps : List PyData}, (∀ p ∈ ps, okGC p) → ∃ gs : List Int, ps = gs.map PyData.int ∧ ∀ g ∈ gs, 0 ≤ g ∧ g ≤ 1000000000
  | [], _ => ⟨[], rfl, by simp⟩
  | p :: ps, h => by
    obtain ⟨g, rfl, h1, h2⟩ := h p List.mem_cons_self
    obtain ⟨gs, rfl, h3⟩ := okGC_list (ps := ps) fun q hq => h q (List.mem_cons_of_mem _ hq)
    refine ⟨g :: gs, rfl, fun x hx => ?_⟩
    rcases List.mem_cons.mp hx with rfl | hx
    · exact ⟨h1, h2⟩
    · exact h3 x hx
theorem l_c_row (r : Addr) : ∀ ds Q E, S_c_row r ds Q E → t_c_row (svTake r) (envOf 4 ds) (fin Q E)
  | [.raw v, .py (.int m)], Q, E, ⟨hv, h1, h2, q⟩ => by
    subst hv
    simp [t_c_row, -lcGo]
    intro x x0 x1
    obtain ⟨d, hd, hm⟩ := atI_ok (xs := [PyData.int 1, PyData.int 2, PyData.int 3, PyData.int 5, PyData.int 1000000000]) (i := x) (by omega) (by simp; omega)
    obtain ⟨kn, rfl, k1, k2⟩ : ∃ kn : Int, d = .int kn ∧ 1 ≤ kn ∧ kn ≤ 1000000000 := by
      simp only [List.mem_cons, List.not_mem_nil, or_false] at hm
      rcases hm with rfl | rfl | rfl | rfl | rfl <;> exact ⟨_, rfl, by omega, by omega⟩
    refine ⟨_, hd, ?_⟩
    refine ⟨by omega, by omega, fun y y0 y1 => ?_⟩
    refine ⟨by constructor <;> omega, ?_⟩
    rw [rangeP_eq]
    refine lc_mem okGC (fun p hp k hk => ?_) (by simp; omega) fun ps pl hps => ?_
    · obtain ⟨i, hi, rfl⟩ := List.mem_map.mp hp
      simp [lcStep]
      exact ⟨by omega, by omega, fun z z0 z1 => hk _ ⟨z, rfl, z0, by omega⟩⟩
    · obtain ⟨gs, rfl, hg⟩ := okGC_list hps
      have pl' : gs.length = (1 + y).toNat := by simpa using pl
      simp
      exact q gs (fun e => by subst e; simp at pl'; omega) (by omega) hg
def oddsC : List PyData := [.none, .bool true, .bool false, .int (-1), .int 0, .int 1, .int 2, .int 40, .int (10 ^ 39), .str "", .str "a", .str "as", .str "x", .tuple [], .list [], .dict [], .tuple [.int 0], .list [.int 0], .tuple [.int 0, .int 1], .tuple [.tuple []]]
@[simp] def S_c_odd (r : Addr) : SV
  | [.raw v], Q, _ => v = .ref r ∧ ∀ p ∈ oddsC, Q (.py p)
  | _, _, _ => False
/-! ### times -/
def IsTm (n : Nat) (p : PyData) : Prop := ∃ ts : List Int, p = tI ts ∧ ts.length = n ∧ (∀ t ∈ ts, 0 ≤ t ∧ t ≤ 1000000000) ∧ ts.Pairwise (· ≤ ·)
theorem isInt_all : ∀ {xs : List PyData} {lo hi : Int}, (∀ x ∈ xs, isInt x lo hi = true) → ∃ ts : List Int, xs = ts.map PyData.int ∧ ∀ t ∈ ts, lo ≤ t ∧ t ≤ hi
  | [], _, _, _ => ⟨[], rfl, by simp⟩
  | x :: xs, lo, hi, h => by
    obtain ⟨c, rfl, h1, h2⟩ := isInt_ex (h x List.mem_cons_self)
    obtain ⟨ts, rfl, h3⟩ := isInt_all fun y hy => h y (List.mem_cons_of_mem _ hy)
    exact ⟨c :: ts, rfl, fun t ht => (List.mem_cons.mp ht).elim (fun e => e ▸ ⟨h1, h2⟩) (h3 t)⟩
@[simp] def S_check_times : SV := fun ds Q E => ∃ (row : List Int) (p : PyData), ds = [.py (tI row), .py p] ∧ (∀ xs, p = .tuple xs → xs.length ≤ 1000) ∧ (IsTm row.length p → Q (.py .none)) ∧ (¬ IsTm row.length p → E ⟨"BadTimes", [("value", p)]⟩)
@[simp] def S_c_is_int : SV
  | [.py p, .py (.int lo), .py (.int hi)], Q, _ => Q (.py (.bool (isInt p lo hi)))
  | _, _, _ => False
@[simp] def S_c_mates : SV := fun ds Q _ => ∃ row : List Int, ds = [.py (tI row)] ∧ row.length ≤ 1000 ∧ Q (.py (.list ((matesL row).map oN)))
theorem l_c_mates : ∀ ds Q E, S_c_mates ds Q E → t_c_mates (envOf 5 ds) (fin Q E) := by
  rintro ds Q E ⟨row, rfl, hl, q⟩
  simp [t_c_mates, -forGo, -lcGo]
  refine ⟨by omega, ?_⟩
  rw [rangeP_eq]
  refine for_enc (encR 0) (fun i ρ => ∃ x y, ρ = [.shr (.py (tI row)), .own (.py (.list (((matesL row).take i).map oN))), x, y, .un]) ⟨_, _, rfl⟩ (fun i a ρ hx iv nx ct hn => ?_) (fun ρ iv => ?_)
  · obtain ⟨x, y, rfl⟩ := iv
    obtain ⟨rfl, ha⟩ := range_get hx
    simp [-lcGo, encR]
    refine ⟨by omega, ?_⟩
    rw [rangeP_eq]
    have g2 : row[a]? = some row[a] := List.getElem?_eq_getElem ha
    refine lc_encF (encR 0) (fun k => row[k]? == row[a]?) (fun k => pN k) (fun j z hx k h3 h4 => ?_) (by simp; omega) ?_
    · obtain ⟨rfl, hz⟩ := range_get hx
      have g1 : row[z]? = some row[z] := List.getElem?_eq_getElem (by omega)
      simp [lcStep, encR]
      refine ⟨_, atI_map g1, _, atI_map g2, ?_⟩
      rw [g1, g2] at h3 h4
      by_cases e : row[z] = row[a]
      · simp [e] at h3 ⊢
        exact h3
      · simp [e] at h4 ⊢
        exact h4
    · have em : mateOf row a = ((List.range a).filter fun k => row[k]? == row[a]?).getLast? := by
        unfold mateOf
        rw [g2]
        rfl
      have et : ((matesL row).take (a + 1)).map oN = ((matesL row).take a).map oN ++ [oN (mateOf row a)] := by
        have : (matesL row)[a]? = some (mateOf row a) := by unfold matesL; rw [List.getElem?_map, List.getElem?_range ha]; rfl
        rw [List.take_add_one, this]
        simp
      have hm : (matesL row).length = row.length := by unfold matesL; simp
      have go : ∀ x y, (min a (matesL row).length < 16777216) ∧ nx [.shr (.py (.tuple (row.map PyData.int))), .own (.py (.list (List.take a (List.map oN (matesL row)) ++ [oN (mateOf row a)]))), x, y, .un] := fun x y => ⟨by omega, (hn _ ⟨x, y, by rw [et, List.map_take]; rfl⟩).1⟩
      rw [em] at go
      generalize (List.range a).filter (fun k => row[k]? == row[a]?) = L at go ⊢
      rcases List.eq_nil_or_concat L with e | ⟨l, m, e⟩
      · subst e
        simp [-lcGo]
        exact go _ _
      · subst e
        have ea : atI ((l.concat m).map fun k => pN k) (-1) = some (pN m) := by
          unfold atI ixN
          simp
          have e3 : (-1 + ((l.length : Int) + 1)).toNat = l.length := by omega
          rw [if_pos (by omega), e3]
          simp
        have g3 := go
        simp at g3 ea
        simp [-lcGo]
        exact ⟨_, ea, g3 _ _⟩
  · obtain ⟨x, y, rfl⟩ := iv
    have : (matesL row).length = row.length := by unfold matesL; simp
    simp
    have e : (matesL row).take row.length = matesL row := by rw [← this, List.take_length]
    rw [← List.map_take, e]
    exact q
@[simp] def S_c_come : SV := fun ds Q _ => ∃ (ws : List Nat) (p : Nat) (m : Option Nat), ds = [.py (.list (ws.map pN)), .py (pN p), .py (oN m)] ∧ ws.length ≤ 1000 ∧ Q (.py (.list ((joinQ ws p m).map pN)))
theorem l_c_come : ∀ ds Q E, S_c_come ds Q E → t_c_come (envOf 4 ds) (fin Q E) := by
  rintro ds Q E ⟨ws, p, m, rfl, hl, q⟩
  have cut : ∀ i : Nat, cutL (ws.map pN) none (some (i : Int)) ++ pN p :: cutL (ws.map pN) (some (i : Int)) none = (insAt ws i p).map pN := fun i => by
    rw [cutL_take _ (by omega), cutL_drop _ (by omega)]
    simp [insAt]
  have ln : ∀ i : Nat, (cutL (ws.map pN) none (some (i : Int))).length ≤ 16777215 ∧ (cutL (ws.map pN) none (some (i : Int))).length + 1 + (cutL (ws.map pN) (some (i : Int)) none).length ≤ 16777216 := fun i => by
    have h1 := cutL_len (ws.map pN) none (some (i : Int))
    have h2 := cutL_len (ws.map pN) (some (i : Int)) none
    rw [List.length_map] at h1 h2
    exact ⟨by omega, by omega⟩
  simp [t_c_come, plain_pN, oN_plain, oN_depth, depth_pN]
  by_cases hk : ∃ k, m = some k ∧ k ∈ ws
  · obtain ⟨k, rfl, hk⟩ := hk
    rw [if_neg (fun h => by have := h k hk; simp [oN, pN] at this)]
    refine ⟨_, ix_pN hk, ?_⟩
    have l := ln (ws.idxOf k + 1)
    have c := cut (ws.idxOf k + 1)
    push_cast at l c
    refine ⟨l.1, l.2, ?_⟩
    rw [c]
    simpa [joinQ, joinPl, hk] using q
  · rw [if_pos (fun x hx => by
      cases hb : (pN x).eqv (oN m) with
      | false => rfl
      | true => exact absurd ((ex_pN ws m).mp ⟨x, hx, hb⟩) hk)]
    have : joinPl ws m = ws.length := by
      unfold joinPl
      cases m with
      | none => rfl
      | some k =>
        simp only
        rw [if_neg fun h => hk ⟨k, rfl, h⟩]
    refine ⟨by omega, ?_⟩
    simpa [joinQ, this, insAt] using q
@[simp] def S_c_is_times : SV := fun ds Q _ => ∃ (row : List Int) (p : PyData), ds = [.py (tI row), .py p] ∧ (∀ xs, p = .tuple xs → xs.length ≤ 1000) ∧ (∀ k, (k = true ↔ IsTm row.length p) → Q (.py (.bool k)))
end LawP
set_option Elab.async false
set_option linter.all false
set_option maxRecDepth 100000
set_option maxHeartbeats 4000000
namespace LawP
open PySem PySem.Spec PyProof.Rows L2 VL
def t_c_word (S_law_wind : SV) : VS :=
  (sSeq (sPar [3, 4, 5, 6] (mCons false (vC (.py (.str ""))) (mCons false (vC (.py (.int 0))) (mCons false (vC (.py (.int 0))) (mCons false (vCall S_law_wind (vCons (vVar 0) (vCons (vC (.py (.int 4))) vNil))) mNil)))))
  (sSeq (sWhile (vTst (vBin gLt (vBor 5) (vCal gLen (vCons (vBor 1) vNil))))
  (sSeq (sSet 7 (vBin gIx (vLst (vCons (vC (.py (.int 3))) (vCons (vC (.py (.int 1))) (vCons (vC (.py (.int 6))) (vCons (vC (.py (.int 3))) vNil))))) (vBor 6)))
  (sIf (wOr (vTst (vBin gEq (vBor 5) (vBor 4))) (wAnd (vTst (vBin gLt (vBor 4) (vCal gLen (vCons (vBor 1) vNil)))) (vTst (vBin gLt (vCall S_law_wind (vCons (vVar 0) (vCons (vC (.py (.int 7))) vNil))) (vBor 7)))))
  (sPar [3, 4] (mCons false (vBin gAdd (vBor 3) (vC (.py (.str "a")))) (mCons false (vBin gAdd (vBor 4) (vC (.py (.int 1)))) mNil)))
  (sPar [3, 5] (mCons false (vBin gAdd (vBor 3) (vC (.py (.str "s")))) (mCons false (vBin gAdd (vBor 5) (vC (.py (.int 1)))) mNil))))))
  (sRet (vIf (vTst (vBor 2)) (vVar 3) (vSl gSl (vBor 3) oNo (oAt (vCall S_law_wind (vCons (vVar 0) (vCons (vBin gAdd (vCal gLen (vCons (vBor 3) vNil)) (vC (.py (.int 1)))) vNil)))))))))
def t_c_play (S_c_mates : SV) (S_c_come : SV) : VS :=
  (sSeq (sPar [2, 3, 4, 5] (mCons true (vLst vNil) (mCons false (vLst vNil) (mCons false (vC (.py (.int 0))) (mCons false (vCall S_c_mates (vCons (vVar 0) vNil)) mNil)))))
  (sSeq (sFor (iS (vVar 1)) (tgName 6)
  (sSeq (sIf (vTst (vBin gEq (vBor 6) (vC (.py (.str "a")))))
  (sSeq (sSet 7 (vCall S_c_come (vCons (vVar 3) (vCons (vVar 4) (vCons (vBin gIx (vBor 5) (vBor 4)) vNil)))))
  (sSeq (sMut 2 gApp (vCons (vLst (vCons (vVar 6) (vCons (vVar 4) (vCons (vVar 3) (vCons (vVar 7) vNil))))) vNil))
  (sSet 4 (vBin gAdd (vBor 4) (vC (.py (.int 1)))))))
  (sSeq (sSet 7 (vSl gSl (vBor 3) (oAt (vC (.py (.int 1)))) oNo))
  (sMut 2 gApp (vCons (vLst (vCons (vVar 6) (vCons (vBin gIx (vBor 3) (vC (.py (.int 0)))) (vCons (vVar 3) (vCons (vVar 7) vNil))))) vNil))))
  (sSet 3 (vVar 7))))
  (sFrz 2 (sRet (vVar 2)))))
end LawP
set_option Elab.async false
set_option linter.all false
set_option maxRecDepth 100000
set_option maxHeartbeats 4000000
namespace LawP
open PySem PySem.Spec PyProof.Rows L2 VL
def topN (L : List Nat) : Nat := L.foldr max 0
theorem topN_cons (a : Nat) (L : List Nat) : topN (a :: L) = max a (topN L) := rfl
theorem topN_mem : ∀ {L : List Nat}, L ≠ [] → topN L ∈ L
  | [], h => absurd rfl h
  | [a], _ => by simp [topN]
  | a :: b :: L, _ => by
    have h := topN_mem (L := b :: L) (by simp)
    rw [topN_cons]
    rcases Nat.le_total a (topN (b :: L)) with e | e
    · rw [Nat.max_eq_right e]; exact List.mem_cons_of_mem _ h
    · rw [Nat.max_eq_left e]; exact List.mem_cons_self
theorem maxL_topN : ∀ (L : List Nat), maxL (L.map fun (n : Nat) => (n : Int)) = (topN L : Nat)
  | [] => rfl
  | [a] => by simp [maxL, topN]
  | a :: b :: L => by
    have h := maxL_topN (b :: L)
    simp only [List.map_cons] at h ⊢
    rw [topN_cons, maxL, h]
    · omega
    · simp
theorem allI_pN (L : List Nat) : allI (L.map pN) = some (L.map fun (n : Nat) => (n : Int)) := by
  have : L.map pN = (L.map fun (n : Nat) => (n : Int)).map PyData.int := by rw [List.map_map]; rfl
  rw [this, allI_map]
/-! ### least and greatest of lists -/
theorem topN_range (f : Nat → Nat) : ∀ k, topN ((List.range (k + 1)).map f) = maxTo f k
  | 0 => by simp [topN, maxTo]
  | k + 1 => by
    have ap : ∀ (L : List Nat) (x : Nat), topN (L ++ [x]) = max (topN L) x := fun L x => by
      induction L with
      | nil => simp [topN]
      | cons a L ih => rw [List.cons_append, topN_cons, topN_cons, ih]; omega
    rw [List.range_succ, List.map_append, List.map_singleton, ap, topN_range f k]; rfl
def botN : List Nat → Nat
  | [] => 0
  | [a] => a
  | a :: r => min a (botN r)
theorem minL_botN : ∀ (L : List Nat), minL (L.map fun (n : Nat) => (n : Int)) = (botN L : Nat)
  | [] => rfl
  | [a] => rfl
  | a :: b :: L => by
    have h := minL_botN (b :: L)
    simp only [List.map_cons] at h ⊢
    rw [minL, botN, h]
    · omega
    · simp
    · simp
theorem botN_spec : ∀ {L : List Nat}, L ≠ [] → botN L ∈ L ∧ ∀ x ∈ L, botN L ≤ x
  | [], h => absurd rfl h
  | [a], _ => by simp [botN]
  | a :: b :: L, _ => by
    obtain ⟨h1, h2⟩ := botN_spec (L := b :: L) (by simp)
    have e : botN (a :: b :: L) = min a (botN (b :: L)) := rfl
    rw [e]
    refine ⟨?_, fun x hx => ?_⟩
    · rcases Nat.le_total a (botN (b :: L)) with e | e
      · rw [Nat.min_eq_left e]; exact List.mem_cons_self
      · rw [Nat.min_eq_right e]; exact List.mem_cons_of_mem _ h1
    · rcases List.mem_cons.mp hx with rfl | hx
      · omega
      · have := h2 x hx
        omega
theorem botN_hiS {row : List Int} {ms : List Nat} {k : Nat} (hk : k < row.length) : botN (((List.range row.length).drop k).map (highD row ms)) = hiS row ms k := by
  have ne : ((List.range row.length).drop k).map (highD row ms) ≠ [] := by simp; omega
  obtain ⟨h1, h2⟩ := botN_spec ne
  have md : ∀ j, j ∈ (List.range row.length).drop k ↔ k ≤ j ∧ j < row.length := fun j => by
    rw [List.range_eq_range', List.drop_range']
    simp
    omega
  obtain ⟨j, hj, ej⟩ := List.mem_map.mp h1
  have hj := (md j).mp hj
  obtain ⟨i, i1, i2, i3⟩ := hiS_mem (row := row) (ms := ms) hk
  have a1 := hiS_le (ms := ms) hj.1 hj.2
  have a2 := h2 _ (List.mem_map.mpr ⟨i, (md i).mpr ⟨i1, i2⟩, rfl⟩)
  omega
theorem poss_stairs {row : List Int} {ms : List Nat} (h : ∀ k, k < row.length → nearB row ms k = true ∨ leadB ms k = true) : Poss row ms ↔ ∀ k, k < row.length → loS row ms k ≤ hiS row ms k := by
  constructor
  · exact fun hp k hk => hp.stairs hk
  · intro hs
    refine ⟨wrongL_nil.mpr h, clashL_nil.mpr fun a b hab hb => ?_⟩
    have h1 := hs b hb
    have h2 := loS_ge (row := row) (ms := ms) (Nat.le_of_lt hab)
    have h3 := hiS_le (ms := ms) (Nat.le_refl b) hb
    omega
end LawP
set_option Elab.async false
set_option linter.all false
set_option maxRecDepth 100000
set_option maxHeartbeats 4000000
namespace LawP
open PySem PySem.Spec PyProof.Rows L2 VL
/-! ### drawn words -/
theorem okP_pre {n : Nat} : ∀ {w : List Nat} {a s : Nat} (k : Nat), okP n a s w → okP n a s (w.take k)
  | w, a, s, 0, _ => by rw [List.take_zero]; trivial
  | [], a, s, k + 1, h => h
  | c :: w, a, s, k + 1, h => by
    rw [List.take_succ_cons]
    rcases h with ⟨e, h1, h⟩ | ⟨e, h1, h⟩
    · exact .inl ⟨e, h1, okP_pre k h⟩
    · exact .inr ⟨e, h1, okP_pre k h⟩
@[simp] def S_c_word (r : Addr) : SV := fun ds Q _ => ∃ (row : List Int) (k : Bool), ds = [.raw (.ref r), .py (tI row), .py (.bool k)] ∧ row.length ≤ 40 ∧ ∀ w : List Nat, (k = true → HistW row.length w) → okP row.length 0 0 w → w.length ≤ 2 * row.length → Q (.py (.str (mkS w)))
theorem l_c_word (r : Addr) : ∀ ds Q E, S_c_word r ds Q E → t_c_word (svTake r) (envOf 8 ds) (fin Q E) := by
  rintro ds Q E ⟨row, k, rfl, hl, q⟩
  simp [t_c_word]
  intro x x0 x1
  refine ⟨fun m ρ => ∃ (w : List Nat) (z : VL.Slot), ρ = [.shr (.raw (.ref r)), .shr (.py (tI row)), .shr (.py (.bool k)), .shr (.py (.str (mkS w))), .shr (.py (.int (w.count 97 : Nat))), .shr (.py (.int (w.count 115 : Nat))), .shr (.py (.int x)), z] ∧ okP row.length 0 0 w ∧ w.length = w.count 97 + w.count 115 ∧ m = 2 * row.length - w.length, ⟨_, [], _, rfl, trivial, rfl, rfl⟩, ?_⟩
  rintro m ρ ⟨w, z, rfl, h1, h2, h3⟩
  obtain ⟨h4, h5⟩ := okP_le h1
  have arr : w.count 97 < row.length → w.length ≤ 16777215 ∧ ∃ m', m' < m ∧ ∃ w' : List Nat, (w ++ [97] = w' ∧ ((w.count 97 : Nat) : Int) + 1 = (w'.count 97 : Nat) ∧ ((w.count 115 : Nat) : Int) = (w'.count 115 : Nat)) ∧ okP row.length 0 0 w' ∧ w'.length = w'.count 97 + w'.count 115 ∧ m' = 2 * row.length - w'.length := fun h =>
    ⟨by omega, 2 * row.length - (w ++ [97]).length, by simp; omega, w ++ [97], ⟨rfl, by simp, by simp⟩, okP_snoc.mpr ⟨h1, .inl ⟨rfl, by omega⟩⟩, by simp; omega, rfl⟩
  have ser : w.count 115 ≠ w.count 97 → w.length ≤ 16777215 ∧ ∃ m', m' < m ∧ ∃ w' : List Nat, (w ++ [115] = w' ∧ ((w.count 97 : Nat) : Int) = (w'.count 97 : Nat) ∧ ((w.count 115 : Nat) : Int) + 1 = (w'.count 115 : Nat)) ∧ okP row.length 0 0 w' ∧ w'.length = w'.count 97 + w'.count 115 ∧ m' = 2 * row.length - w'.length := fun h =>
    ⟨by omega, 2 * row.length - (w ++ [115]).length, by simp; omega, w ++ [115], ⟨rfl, by simp, by simp⟩, okP_snoc.mpr ⟨h1, .inr ⟨rfl, by omega⟩⟩, by simp; omega, rfl⟩
  simp
  by_cases hs : w.count 115 < row.length
  · rw [if_pos hs]
    obtain ⟨d, hd, hm⟩ := atI_ok (xs := [PyData.int 3, PyData.int 1, PyData.int 6, PyData.int 3]) (i := x) (by omega) (by simp; omega)
    obtain ⟨kn, rfl⟩ : ∃ kn : Int, d = .int kn := by
      simp only [List.mem_cons, List.not_mem_nil, or_false] at hm
      rcases hm with rfl | rfl | rfl | rfl <;> exact ⟨_, rfl⟩
    refine ⟨_, hd, ?_⟩
    by_cases e : w.count 115 = w.count 97
    · rw [if_pos (by omega)]
      exact arr (by omega)
    · rw [if_neg (by omega)]
      by_cases c : w.count 97 < row.length
      · rw [if_pos c]
        intro y y0 y1
        simp
        by_cases f : y < kn
        · rw [if_pos f]; exact arr c
        · rw [if_neg f]; exact ser e
      · rw [if_neg c]
        exact ser e
  · rw [if_neg hs]
    have hh : HistW row.length w := hist_okP.mpr ⟨h1, by omega⟩
    by_cases hk : k = true
    · rw [if_pos hk]
      exact q w (fun _ => hh) h1 (by omega)
    · rw [if_neg hk]
      refine ⟨by omega, by omega, fun y y0 y1 => ⟨by omega, ?_⟩⟩
      have ec : cutL w none (some y) = w.take y.toNat := by
        obtain ⟨n, rfl⟩ := Int.eq_ofNat_of_zero_le y0
        rw [cutL_take w (by omega)]
      rw [ec]
      exact q _ (fun e => absurd e hk) (okP_pre _ h1) (by rw [List.length_take]; omega)
/-! ### values near a word -/
@[simp] def S_c_bent (r : Addr) : SV := fun ds Q _ => ∃ w : List Nat, ds = [.raw (.ref r), .py (.str (mkS w))] ∧ w.length ≤ 200 ∧ (∀ c ∈ w, c < 128) ∧ ∀ p, isSm p → Sw 2000 8 p → Q (.py p)
/-! ### the law's own look at a word -/
@[simp] def S_c_word_error : SV := fun ds Q _ => ∃ (row : List Int) (p : PyData), ds = [.py (tI row), .py p] ∧ isSm p ∧ Q (.py (wErr row.length p))
/-! ### the law's own queue, step by step -/
def playL (row : List Int) : Nat → List Nat → List Nat → List (Nat × Nat × List Nat × List Nat)
  | _, _, [] => []
  | a, ws, c :: w => if c = 97 then (97, a, ws, joinQ ws a (mateOf row a)) :: playL row (a + 1) (joinQ ws a (mateOf row a)) w
    else (115, ws.headD 0, ws, ws.tail) :: playL row a ws.tail w
def playP (q : Nat × Nat × List Nat × List Nat) : PyData := .list [.str (mkS [q.1]), pN q.2.1, .list (q.2.2.1.map pN), .list (q.2.2.2.map pN)]
theorem playL_steps (row : List Int) (n : Nat) : ∀ (w : List Nat) (a s : Nat) (ws : List Nat), okP n a s w → ws.length + s = a → (playL row a ws w).map (fun q => (q.1, q.2.1, q.2.2.2)) = stepsL row a ws w
  | [], _, _, _, _, _ => rfl
  | c :: w, a, s, ws, h, e => by
    rcases h with ⟨rfl, h1, h⟩ | ⟨rfl, h1, h⟩
    · rw [stepsL_a, playL, if_pos rfl, List.map_cons, playL_steps row n w (a + 1) s _ h (by rw [joinQ_len]; omega)]
    · cases ws with
      | nil => simp at e; omega
      | cons x ws => rw [stepsL_s, playL, if_neg (by decide), List.map_cons, List.tail_cons, playL_steps row n w a (s + 1) ws h (by simp at e; omega)]; rfl
@[simp] def S_c_play : SV := fun ds Q _ => ∃ (row : List Int) (w : List Nat), ds = [.py (tI row), .py (.str (mkS w))] ∧ row.length ≤ 1000 ∧ w.length ≤ 100000 ∧ okP row.length 0 0 w ∧ Q (.py (.list ((playL row 0 [] w).map playP)))
theorem playL_drop (row : List Int) : ∀ (w : List Nat) (a : Nat) (ws : List Nat), (playL row a ws w).length = w.length
  | [], _, _ => rfl
  | c :: w, a, ws => by
    unfold playL
    split <;> simp [playL_drop row w]
theorem l_c_play : ∀ ds Q E, S_c_play ds Q E → t_c_play S_c_mates S_c_come (envOf 8 ds) (fin Q E) := by
  rintro ds Q E ⟨row, w, rfl, hl, hw, ok, q⟩
  simp [t_c_play, -S_c_mates, -S_c_come, -forGo]
  refine ⟨row, rfl, hl, ?_⟩
  have hm : ∀ a, a < row.length → (((matesL row).map oN))[a]? = some (oN (mateOf row a)) := fun a ha => by
    unfold matesL
    rw [List.map_map, List.getElem?_map, List.getElem?_range ha]; rfl
  simp [-S_c_come, -forGo, signsD_mkS]
  refine for_enc' encC (fun k ρ => ∃ (acc : List PyData) (a s : Nat) (ws : List Nat) (x y : VL.Slot), ρ = [.shr (.py (tI row)), .shr (.py (.str (mkS w))), .own (.py (.list acc)), .shr (.py (.list (ws.map pN))), .shr (.py (.int (a : Nat))), .shr (.py (.list ((matesL row).map oN))), x, y] ∧ okP row.length a s (w.drop k) ∧ ws.length + s = a ∧ a ≤ k ∧
    acc ++ (playL row a ws (w.drop k)).map playP = (playL row 0 [] w).map playP ∧ acc.length = k) ⟨[], 0, 0, [], _, _, rfl, ok, rfl, Nat.le_refl _, rfl, rfl⟩ (fun k c ρ hc iv nx ct hn => ?_) (fun ρ iv => ?_)
  · obtain ⟨acc, a, s, ws, x, y, rfl, h1, h2, h3, h4, h5⟩ := iv
    have hk := (List.getElem?_eq_some_iff.mp hc).1
    rw [drop_at hc] at h1 h4
    unfold okP at h1
    rcases h1 with ⟨rfl, ha, h1⟩ | ⟨rfl, ha, h1⟩
    · rw [playL, if_pos rfl] at h4
      simp [-S_c_come]
      refine ⟨_, atI_nat (hm a ha), ws, a, mateOf row a, rfl, by omega, ?_⟩
      simp
      refine ⟨by omega, (hn _ ⟨_, a + 1, s, joinQ ws a (mateOf row a), _, _, rfl, h1, ?_, by omega, ?_, ?_⟩).1⟩
      · rw [joinQ_len]; omega
      · rw [List.append_assoc]
        exact h4
      · simp; omega
    · cases ws with
      | nil => simp at h2; omega
      | cons p ws =>
        rw [playL, if_neg (by decide)] at h4
        have c1 : cutL (pN p :: ws.map pN) (some 1) none = ws.map pN := by
          rw [cutL_drop _ (by omega)]; simp
        simp [c1]
        refine ⟨by omega, (hn _ ⟨_, a, s + 1, ws, _, _, rfl, h1, ?_, by omega, ?_, ?_⟩).1⟩
        · simp at h2; omega
        · rw [List.append_assoc]
          exact h4
        · simp; omega
  · obtain ⟨acc, a, s, ws, x, y, rfl, h1, h2, h3, h4, h5⟩ := iv
    rw [List.drop_eq_nil_of_le (by simp)] at h4
    simp [playL] at h4
    subst h4
    simpa using q
/-! ### lengths, the longest -/
def lensL (row : List Int) (w : List Nat) : List Nat := (stepsL row 0 [] w).map fun p => p.2.2.length
@[simp] def S_lengths : SV := fun ds Q E => ∃ (row : List Int) (p : PyData), ds = [.py (tI row), .py p] ∧ row.length ≤ 1000 ∧ isSm p ∧ (∀ w, p = .str (mkS w) → okP row.length 0 0 w → Q (.py (tN (lensL row w)))) ∧ (wErr row.length p ≠ .none → E ⟨"BadWord", [("error", wErr row.length p)]⟩)
def topP (row : List Int) (w : List Nat) : PyData := if lensL row w = [] then .tuple [.int 0, .none] else .tuple [pN (topN (lensL row w)), pN ((lensL row w).idxOf (topN (lensL row w)))]
@[simp] def S_longest : SV := fun ds Q E => ∃ (row : List Int) (p : PyData), ds = [.py (tI row), .py p] ∧ row.length ≤ 1000 ∧ isSm p ∧ (∀ w, p = .str (mkS w) → okP row.length 0 0 w → Q (.py (topP row w))) ∧ (wErr row.length p ≠ .none → E ⟨"BadWord", [("error", wErr row.length p)]⟩)
end LawP
set_option Elab.async false
set_option linter.all false
set_option maxRecDepth 100000
set_option maxHeartbeats 4000000
namespace LawP
open PySem PySem.Spec PyProof.Rows L2 VL
def t_c_order (S_c_play : SV) : VS :=
  (sRet (vCal gTuple (vCons (vLc [2] (iS (vCall S_c_play (vCons (vVar 0) (vCons (vVar 1) vNil)))) (tgName 2) (vTst (vBin gEq (vBin gIx (vBor 2) (vC (.py (.int 0)))) (vC (.py (.str "s"))))) (vBin gIx (vBor 2) (vC (.py (.int 1))))) vNil)))
def t_m_places_in (S_is_integer : SV) : VS :=
  (sSeq (sSet 2 (vCal gLen (vCons (vBor 0) vNil)))
  (sSeq (sIf (wOr (wNot (vTst (vCal gIsi (vCons (vBor 1) (vCons (vC (.raw (.ty "tuple"))) vNil))))) (wOr (vTst (vBin gNe (vCal gLen (vCons (vBor 1) vNil)) (vBor 2))) (wNot (vTst (vCal gAll (vCons (vLc [3] (iS (vBor 1)) (tgName 3) wYes (vCall S_is_integer (vCons (vVar 3) (vCons (vC (.py (.int 0))) (vCons (vBin gSub (vBor 2) (vC (.py (.int 1)))) vNil))))) vNil))))))
  (sRaise0 "NoOrder")
  sNext)
  (sSeq (sIf (vTst (vBin gLt (vLenSet (vBor 1)) (vBor 2)))
  (sRaise0 "NoOrder")
  sNext)
  (sRet (vLc [4] (iR1 (vCons (vBor 2) vNil)) (tgName 4) wYes (vMth isSq gIndex (vBor 1) (vCons (vBor 4) vNil)))))))
def t_bounds_for : VS :=
  (sSeq (sSet 3 (vBin gIx (vBor 1) (vBor 0)))
  (sSeq (sSet 4 (vCal gAll (vCons (vLc [5] (iS (vSl gSl (vBor 1) oNo (oAt (vBor 0)))) (tgName 5) wYes (vBin gLt (vBor 5) (vBor 3))) vNil)))
  (sSeq (sIf (wOr (vTst (vBin (gIsN false) (vBor 2) (vC (.py .none)))) (vTst (vBin gNe (vBin gAdd (vBin gIx (vBor 1) (vBor 2)) (vC (.py (.int 1)))) (vBor 3))))
  (sSeq (sIf (wNot (vTst (vBor 4)))
  (sRaise0 "Impossible")
  sNext)
  (sRet (vTup (vCons (vIf (vTst (vBin (gIsN false) (vBor 2) (vC (.py .none)))) (vC (.py (.int 0))) (vBin gAdd (vBin gIx (vBor 1) (vBor 2)) (vC (.py (.int 1))))) (vCons (vVar 3) vNil)))))
  sNext)
  (sRet (vTup (vCons (vC (.py (.int 0))) (vCons (vIf (vTst (vBor 4)) (vVar 3) (vBin gIx (vBor 1) (vBor 2))) vNil)))))))
def t_Limits_init (S_m_places_in : SV) (S_mates : SV) (S_bounds_for : SV) : VS :=
  (sSeq (sFldS 0 "Limits" "places" (vCall S_m_places_in (vCons (vVar 1) (vCons (vVar 2) vNil))))
  (sSeq (sFldS 0 "Limits" "mates" (vCall S_mates (vCons (vVar 1) vNil)))
  (sSeq (sSet 3 (vLcE [4, 5] (iEn (vCons (vUn (gFld "Limits" "mates") (vBor 0)) vNil)) (tgTup 2 (tgCons (tgName 4) (tgCons (tgName 5) tgNil))) wYes (vCall S_bounds_for (vCons (vVar 4) (vCons (vUn (gFld "Limits" "places") (vBor 0)) (vCons (vVar 5) vNil))))))
  (sSeq (sFldS 0 "Limits" "lows" (vLc [4] (iR1 (vCons (vCal gLen (vCons (vBor 1) vNil)) vNil)) (tgName 4) wYes (vCal gMax (vCons (vLc [6, 7] (iS (vSl gSl (vBor 3) oNo (oAt (vBin gAdd (vBor 4) (vC (.py (.int 1))))))) (tgTup 2 (tgCons (tgName 6) (tgCons (tgName 7) tgNil))) wYes (vVar 6)) vNil))))
  (sSeq (sFldS 0 "Limits" "highs" (vLc [4] (iR1 (vCons (vCal gLen (vCons (vBor 1) vNil)) vNil)) (tgName 4) wYes (vCal gMin (vCons (vLc [6, 7] (iS (vSl gSl (vBor 3) (oAt (vBor 4)) oNo)) (tgTup 2 (tgCons (tgName 6) (tgCons (tgName 7) tgNil))) wYes (vVar 7)) vNil))))
  (sIf (vTst (vCal gAny (vCons (vLc [6, 7] (iZ2 (vCons (vUn (gFld "Limits" "lows") (vBor 0)) (vCons (vUn (gFld "Limits" "highs") (vBor 0)) vNil))) (tgTup 2 (tgCons (tgName 6) (tgCons (tgName 7) tgNil))) wYes (vBin gGt (vBor 6) (vBor 7))) vNil)))
  (sRaise0 "Impossible")
  sNext))))))
end LawP
set_option Elab.async false
set_option linter.all false
set_option maxRecDepth 100000
set_option maxHeartbeats 4000000
namespace LawP
open PySem PySem.Spec PyProof.Rows L2 VL
/-! ### the order of a word, by the law's own play -/
theorem playL_served (row : List Int) {n : Nat} {w : List Nat} {a s : Nat} {ws : List Nat} (h : okP n a s w) (e : ws.length + s = a) :
    ((playL row a ws w).filter fun q => q.1 == 115).map (fun q => q.2.1) = servedL (stepsL row a ws w) := by
  rw [← playL_steps row n w a s ws h e]
  unfold servedL
  rw [List.filter_map, List.map_map]
  rfl
@[simp] def S_c_order : SV := fun ds Q _ => ∃ (row : List Int) (w : List Nat), ds = [.py (tI row), .py (.str (mkS w))] ∧ row.length ≤ 40 ∧ HistW row.length w ∧ Q (.py (tN (ordL row w)))
theorem l_c_order : ∀ ds Q E, S_c_order ds Q E → t_c_order S_c_play (envOf 3 ds) (fin Q E) := by
  rintro ds Q E ⟨row, w, rfl, hl, hw, q⟩
  have wl := hw.len
  have hok := (hist_okP.mp hw).1
  simp [t_c_order, -S_c_play, -lcGo]
  refine ⟨row, w, rfl, by omega, by omega, hok, ?_⟩
  have sv := playL_served row (w := w) (a := 0) (s := 0) (ws := []) hok rfl
  have pl := playL_drop row w 0 []
  generalize playL row 0 [] w = R at sv pl ⊢
  simp [-lcGo]
  refine lc_encF' (L := R) playP (fun q => q.1 == 115) (fun q => pN q.2.1) (fun i x hx k k1 k2 => ?_) (by omega) ?_
  · obtain ⟨c, p, ws, vs⟩ := x
    simp [lcStep, playP]
    by_cases e : c = 115
    · subst e
      simpa using k1 rfl
    · simpa [e] using k2 (by simpa using e)
  · have e : (R.filter fun q => q.1 == 115).map (fun q => pN q.2.1) = (ordL row w).map pN := by
      unfold ordL
      rw [← sv, List.map_map]
      rfl
    simp
    have e' : (List.filter (fun q => decide (q.1 = 115)) R) = R.filter fun q => q.1 == 115 := by
      refine List.filter_congr fun x _ => ?_
      simp [BEq.beq]
    first | (rw [e]; exact q) | (rw [e', e]; exact q)
/-! ### all histories -/
@[simp] def S_c_histories : SV := fun ds Q _ => ∃ n : Nat, ds = [.py (.int (n : Nat))] ∧ n ≤ 10 ∧ ∀ L : List (List Nat), (∀ w, w ∈ L ↔ HistW n w) → L.length ≤ 2 ^ (2 * n) → Q (.py (.list (L.map fun w => PyData.str (mkS w))))
def knownP (row : List Int) (w : List Nat) : PyData := .tuple [.str (mkS w), tN (ordL row w)]
@[simp] def S_c_known : SV := fun ds Q _ => ∃ row : List Int, ds = [.py (tI row)] ∧ row.length ≤ 8 ∧ ∀ L : List (List Nat), (∀ w, w ∈ L ↔ HistW row.length w) → L.length ≤ 65536 → Q (.py (.list (L.map (knownP row))))
@[simp] def S_c_with : SV := fun ds Q _ => ∃ (row : List Int) (L : List (List Nat)) (ms : List Nat), ds = [.py (.list (L.map (knownP row))), .py (tN ms)] ∧ L.length ≤ 65536 ∧ Q (.py (.list ((L.filter fun w => decide (ordL row w = ms)).map fun w => PyData.str (mkS w))))
/-! ### orders and what is no order -/
def longU (p : PyData) : Prop := ∀ xs, p = .tuple xs → xs.length ≤ 1000
@[simp] def S_c_orders (r : Addr) : SV := fun ds Q _ => ∃ (row : List Int), ds = [.raw (.ref r), .py (tI row)] ∧ 0 < row.length ∧ row.length ≤ 40 ∧ ∀ L : List PyData, (∀ p ∈ L, longU p ∧ Sw 20000 8 p) → L.length = 8 → Q (.py (.list L))
end LawP
set_option Elab.async false
set_option linter.all false
set_option maxRecDepth 100000
set_option maxHeartbeats 4000000
namespace LawP
open PySem PySem.Spec PyProof.Rows L2 VL
theorem ord_ints {n : Nat} {xs : List PyData} (h : ordB n (.tuple xs) = true) : ∀ x ∈ xs, isInt x 0 ((n : Int) - 1) = true := fun x hx => by
  obtain ⟨ms, e, hp⟩ := ordB_iff.mp h
  unfold tN at e
  injection e with e
  subst e
  obtain ⟨k, hk, rfl⟩ := List.mem_map.mp hx
  have := (perm_mem hp).mp hk
  simp [isInt, pN]
  omega
theorem ord_ts {n : Nat} (ts : List Int) : ordB n (.tuple (ts.map PyData.int)) = true ↔ sortI ts = rngI n := by
  unfold ordB
  simp only [allI_map, List.length_map, Bool.and_eq_true, decide_eq_true_eq]
  constructor
  · exact fun h => h.2
  · intro h
    refine ⟨?_, h⟩
    have := (sortI_perm ts).length_eq
    rw [h, rngI_len] at this
    exact this.symm
@[simp] def S_c_order_error : SV := fun ds Q _ => ∃ (row : List Int) (L : List (List Nat)) (p : PyData), ds = [.py (tI row), .py (.list (L.map (knownP row))), .py p] ∧ 0 < row.length ∧ row.length ≤ 40 ∧ L.length ≤ 65536 ∧ (∀ w, w ∈ L ↔ HistW row.length w) ∧ longU p ∧
  (ordB row.length p = false → Q (.py (.list [.str "order"]))) ∧ (∀ ms, p = tN ms → ms.Perm (List.range row.length) → (¬ Poss row ms → Q (.py (.list [.str "impossible"]))) ∧ (Poss row ms → Q (.py .none)))
/-! ### the program's own places -/
@[simp] def S_m_places_in : SV := fun ds Q E => ∃ (row : List Int) (p : PyData), ds = [.py (tI row), .py p] ∧ 0 < row.length ∧ row.length ≤ 40 ∧ longU p ∧ (ordB row.length p = false → E ⟨"NoOrder", []⟩) ∧ ∀ ms, p = tN ms → ms.Perm (List.range row.length) → Q (.py (.list ((placesL ms).map pN)))
theorem l_m_places_in : ∀ ds Q E, S_m_places_in ds Q E → t_m_places_in S_is_integer (envOf 5 ds) (fin Q E) := by
  rintro ds Q E ⟨row, p, rfl, h0, hl, hp, q1, q2⟩
  cases p
  case tuple xs =>
    have hx := hp xs rfl
    have ex : (xs.map D.py) = (xs.map id).map D.py := by simp
    by_cases el : xs.length = row.length
    · simp [t_m_places_in, el, -lcGo]
      rw [ex]
      refine lc_encM id (fun x => .bool (isInt x 0 (row.length - 1))) (fun i x hx k k1 => ?_) (by omega) ?_
      · simp [lcStep]
        exact k1
      · have eb : xs.map (fun x => PyData.bool (isInt x 0 ((row.length : Int) - 1))) = (xs.map fun x => isInt x 0 ((row.length : Int) - 1)).map PyData.bool := by simp
        rw [eb]
        refine ⟨_, allB_mk _, ?_⟩
        cases ha : ((xs.map fun x => isInt x 0 ((row.length : Int) - 1)).all fun k => k) with
        | false =>
          have hn : ordB row.length (.tuple xs) = false := by
            cases h : ordB row.length (.tuple xs) with
            | false => rfl
            | true =>
              rw [List.all_map] at ha
              have : (xs.all fun x => isInt x 0 ((row.length : Int) - 1)) = true := List.all_eq_true.mpr (ord_ints h)
              rw [show (xs.all ((fun k => k) ∘ fun x => isInt x 0 ((row.length : Int) - 1))) = _ from this] at ha
              cases ha
          simp
          exact q1 hn
        | true =>
          have hall : ∀ x ∈ xs, isInt x 0 ((row.length : Int) - 1) = true := by simpa using ha
          obtain ⟨ts, rfl, ht⟩ := isInt_all hall
          have elt : ts.length = row.length := by simpa using el
          simp [-lcGo]
          refine ⟨ts, allI_map ts, by omega, fun ks hk hm => ?_⟩
          have oi := order_iff (n := row.length) elt (fun j hj => by have := ht j hj; omega) hk hm
          by_cases c : ks.length = row.length
          · obtain ⟨ms, em, pm⟩ := ordB_iff.mp ((ord_ts ts).mpr (oi.mp c))
            have q := q2 ms em pm
            rw [em]
            have lm := perm_len pm
            simp [c, -lcGo]
            refine ⟨by omega, ?_⟩
            rw [rangeP_eq]
            refine lc_encM (encR 0) (fun k => pN (ms.idxOf k)) (fun i x hx k k1 => ?_) (by simp; omega) ?_
            · obtain ⟨rfl, hx⟩ := range_get hx
              have hx : x < row.length := by simpa using hx
              have hmx : x ∈ ms := (perm_mem pm).mpr hx
              simp [lcStep, encR]
              exact ⟨pn_plain ms, _, pn_ix hmx, k1⟩
            · have e : (List.range row.length).map (fun k => pN (ms.idxOf k)) = (placesL ms).map pN := by
                unfold placesL; rw [lm, List.map_map]; rfl
              rw [e]
              simpa using q
          · have hn : ordB row.length (.tuple (ts.map PyData.int)) = false := by
              cases h : ordB row.length (.tuple (ts.map PyData.int)) with
              | false => rfl
              | true => exact absurd (oi.mpr ((ord_ts ts).mp h)) c
            have lt : ks.length < row.length := by
              obtain ⟨r1, p1⟩ := sub_perm hk fun j h => (hm j).mp h
              have := p1.length_eq
              rw [List.length_append] at this
              omega
            rw [if_pos (by omega)]
            exact q1 hn
    · have hn : ordB row.length (.tuple xs) = false := by simp [ordB, el]
      have el' : ¬ ((xs.length : Int) = row.length) := by omega
      simp [t_m_places_in, el, el']
      exact q1 hn
  all_goals
    have q := q1 rfl
    simp [t_m_places_in]
    exact q
end LawP
set_option Elab.async false
set_option linter.all false
set_option maxRecDepth 100000
set_option maxHeartbeats 4000000
namespace LawP
open PySem PySem.Spec PyProof.Rows L2 VL
theorem lplaces_at {ms : List Nat} {k : Nat} (h : k < ms.length) : ((placesL ms).map pN)[k]? = some (pN (ms.idxOf k)) := by
  unfold placesL
  rw [List.map_map, List.getElem?_map, List.getElem?_range h]; rfl
theorem places_take {ms : List Nat} {k : Nat} (h : k ≤ ms.length) : cutL ((placesL ms).map pN) none (some (k : Int)) = (List.range k).map fun j => pN (ms.idxOf j) := by
  rw [cutL_take _ (by omega)]
  unfold placesL
  rw [List.map_map, ← List.map_take, Int.toNat_natCast, List.take_range, Nat.min_eq_left h]
  rfl
def limP (row : List Int) (ms : List Nat) (k : Nat) : PyData := .tuple [pN (lowD row ms k), pN (highD row ms k)]
@[simp] def S_bounds_for : SV := fun ds Q E => ∃ (row : List Int) (ms : List Nat) (k : Nat), ds = [.py (pN k), .py (.list ((placesL ms).map pN)), .py (oN (mateOf row k))] ∧ ms.Perm (List.range row.length) ∧ k < row.length ∧ row.length ≤ 40 ∧
  ((nearB row ms k = true ∨ leadB ms k = true) → Q (.py (limP row ms k))) ∧ (¬ (nearB row ms k = true ∨ leadB ms k = true) → E ⟨"Impossible", []⟩)
theorem lead_all {ms : List Nat} {k : Nat} {Q : D → Prop} {ρ : VEnv} (h : k ≤ 40) (he : ρ[3]? = some (.shr (.py (pN (ms.idxOf k))))) (hn : 5 < ρ.length) (q : Q (.py (.list (((List.range k).map fun j => decide (ms.idxOf j < ms.idxOf k)).map PyData.bool)))) :
    lcGo (tgName 5) wYes (vBin gLt (vBor 5) (vBor 3)) Q (((List.range k).map fun j => pN (ms.idxOf j)).map D.py) [] ρ := by
  refine lc_encM (fun j => pN (ms.idxOf j)) (fun j => .bool (decide (ms.idxOf j < ms.idxOf k))) (fun i x hx kk k1 => ?_) (by simp; omega) ?_
  · simp [lcStep, pN, hn, he]
    exact k1
  · rw [List.map_map] at q
    exact q
theorem l_bounds_for : ∀ ds Q E, S_bounds_for ds Q E → t_bounds_for (envOf 6 ds) (fin Q E) := by
  rintro ds Q E ⟨row, ms, k, rfl, hp, hk, hl, q1, q2⟩
  have lm := perm_len hp
  have ek := atI_nat (lplaces_at (ms := ms) (k := k) (by omega))
  have el : ((List.range k).map fun j => decide (ms.idxOf j < ms.idxOf k)).all (fun k => k) = leadB ms k := by
    unfold leadB; rw [List.all_map]; rfl
  have et := places_take (ms := ms) (k := k) (by omega)
  unfold limP lowD highD at q1
  unfold nearB at q1 q2
  cases hm : mateOf row k with
  | none =>
    rw [hm] at q1 q2
    simp [t_bounds_for, oN, -lcGo]
    refine ⟨_, ek, ?_⟩
    simp only [pN, et]
    refine lead_all (by omega) rfl (by simp) ?_
    refine ⟨_, allB_mk _, ?_⟩
    rw [el]
    cases hL : leadB ms k with
    | true =>
      rw [hL] at q1
      have q := q1 (by simp)
      simpa [pN] using q
    | false =>
      rw [hL] at q2
      exact q2 (by simp)
  | some m =>
    have hmk := (mateOf_lt hm).1
    have em := atI_nat (lplaces_at (ms := ms) (k := m) (by omega))
    rw [hm] at q1 q2
    simp [t_bounds_for, oN, -lcGo]
    refine ⟨_, ek, ?_⟩
    simp only [pN, et]
    refine lead_all (by omega) rfl (by simp) ?_
    refine ⟨_, allB_mk _, ?_⟩
    rw [el]
    refine ⟨_, em, ?_⟩
    by_cases hn : ms.idxOf k = ms.idxOf m + 1
    · have hn' : ((ms.idxOf m : Nat) : Int) + 1 = (ms.idxOf k : Nat) := by omega
      cases hL : leadB ms k with
      | true =>
        rw [hL] at q1
        have q := q1 (by simp)
        simp [hn] at q
        simp [pN, hn]
        simpa [pN] using q
      | false =>
        rw [hL] at q1
        have q := q1 (by simp [hn])
        simp [hn] at q
        simp [pN, hn]
        refine ⟨_, em, ?_⟩
        simpa [pN] using q
    · have hn' : ¬ ((ms.idxOf m : Nat) : Int) + 1 = (ms.idxOf k : Nat) := by omega
      cases hL : leadB ms k with
      | true =>
        rw [hL] at q1
        have q := q1 (by simp)
        simp [hn] at q
        simp [pN, hn']
        refine ⟨_, em, ?_⟩
        simpa [pN] using q
      | false =>
        rw [hL] at q2
        simp [pN, hn']
        exact q2 (by simp [hn])
end LawP
set_option Elab.async false
set_option linter.all false
set_option maxRecDepth 100000
set_option maxHeartbeats 4000000
namespace LawP
open PySem PySem.Spec PyProof.Rows L2 VL
def limF (row : List Int) (ms : List Nat) : List (Str × PyData) := [("places", .list ((placesL ms).map pN)), ("mates", matesP row), ("lows", .list ((csLo row ms).map pN)), ("highs", .list ((csHi row ms).map pN))]
@[simp] def S_Limits_init : SI := fun ds Q E => ∃ (row : List Int) (p : PyData), ds = [.py (tI row), .py p] ∧ 0 < row.length ∧ row.length ≤ 40 ∧ longU p ∧ (ordB row.length p = false → E ⟨"NoOrder", []⟩) ∧ ∀ ms, p = tN ms → ms.Perm (List.range row.length) → (Poss row ms → Q (limF row ms)) ∧ (¬ Poss row ms → E ⟨"Impossible", []⟩)
theorem lim_go {row : List Int} {ms : List Nat} {Qd : D → Prop} {E : Er → Prop} {ρ : VEnv} {x : Addr} {fs : List (Str × PyData)} (pm : ms.Perm (List.range row.length)) (hl : row.length ≤ 40) (h0 : ρ[0]? = some (.own (.obj x "Limits" fs))) (hf : fs.lookup ("places" : Str) = some (PyData.list ((placesL ms).map pN))) (hn : 5 < ρ.length)
    (q1 : (∀ k, k < row.length → nearB row ms k = true ∨ leadB ms k = true) → Qd (.py (.list ((List.range row.length).map (limP row ms))))) (q2 : ∀ k, k < row.length → ¬ (nearB row ms k = true ∨ leadB ms k = true) → E ⟨"Impossible", []⟩) :
    lcGoE (tgTup 2 (tgCons (tgName 4) (tgCons (tgName 5) tgNil))) wYes (vCall S_bounds_for (vCons (vVar 4) (vCons (vUn (gFld "Limits" "places") (vBor 0)) (vCons (vVar 5) vNil)))) Qd E ((enumP ((matesL row).map oN)).map D.py) [] ρ := by
  have go : ∀ (d k : Nat), k + d = row.length → (∀ j, j < k → nearB row ms j = true ∨ leadB ms j = true) →
      lcGoE (tgTup 2 (tgCons (tgName 4) (tgCons (tgName 5) tgNil))) wYes (vCall S_bounds_for (vCons (vVar 4) (vCons (vUn (gFld "Limits" "places") (vBor 0)) (vCons (vVar 5) vNil)))) Qd E (((List.range' k d).map fun j => PyData.tuple [pN j, oN (mateOf row j)]).map D.py) ((List.range k).map (limP row ms)) ρ := by
    intro d
    induction d with
    | zero =>
      intro k hk hj
      have : k = row.length := by omega
      subst this
      exact q1 hj
    | succ d ih =>
      intro k hk hj
      rw [List.range'_succ]
      have hn4 : 4 < ρ.length := by omega
      have hf' : List.lookup (Str.ofString "places") fs = some (PyData.list ((placesL ms).map pN)) := hf
      have n1 : (ρ.set 4 (Slot.shr (D.py (pN k)))).length = ρ.length := by simp
      simp [-S_bounds_for, hn, h0, hf', hn4]
      refine ⟨row, ms, k, rfl, pm, by omega, hl, fun h => ?_, fun h => q2 k (by omega) h⟩
      have z := ih (k + 1) (by omega) fun j hj' => by
        by_cases e : j = k
        · subst e; exact h
        · exact hj j (by omega)
      rw [List.range_succ, List.map_append, List.map_map] at z
      exact ⟨by omega, z⟩
  have e : enumP ((matesL row).map oN) = (List.range' 0 row.length).map fun j => PyData.tuple [pN j, oN (mateOf row j)] := by
    unfold matesL
    rw [List.map_map, ← List.range_eq_range']
    apply List.ext_getElem?
    intro i
    by_cases hi : i < row.length
    · rw [List.getElem?_map, List.getElem?_range hi]
      have : (enumP ((List.range row.length).map (oN ∘ mateOf row)))[i]? = some (.tuple [.int (i : Nat), (oN ∘ mateOf row) i]) := by
        unfold enumP
        rw [List.getElem?_map, List.getElem?_zipIdx, List.getElem?_map, List.getElem?_range hi]
        simp
      rw [this]; rfl
    · rw [List.getElem?_eq_none (by rw [enumP_len]; simp; omega), List.getElem?_eq_none (by simp; omega)]
  rw [e]
  exact go row.length 0 (by omega) (by omega)
theorem l_Limits_init : ∀ x ds Q E, S_Limits_init ds Q E → t_Limits_init S_m_places_in S_mates S_bounds_for (envI x "Limits" 8 ds) (finI x "Limits" Q E) := by
  rintro x ds Q E ⟨row, p, rfl, h0, hl, hp, q1, q2⟩
  simp [t_Limits_init, -S_m_places_in, -S_mates, -S_bounds_for, -lcGo, -lcGoE]
  refine ⟨row, p, rfl, h0, hl, hp, q1, fun ms em pm => ?_⟩
  subst em
  have q := q2 ms rfl pm
  simp [-S_bounds_for, -lcGo, -lcGoE]
  refine ⟨x, [], ⟨rfl, rfl⟩, by simp, by omega, x, [("places", PyData.list ((placesL ms).map pN))], ⟨rfl, rfl⟩, by simp, matesP row, rfl, ?_⟩
  show lcGoE _ _ _ _ _ ((enumP ((matesL row).map oN)).map D.py) [] _
  refine lim_go (fs := [("places", .list ((placesL ms).map pN)), ("mates", matesP row)]) pm hl rfl rfl (by simp) (fun hk => ?_) fun k hk hn => ?_
  · refine ⟨by omega, ?_⟩
    rw [rangeP_eq]
    refine lc_encM (encR 0) (fun k => pN (loS row ms k)) (fun i k hx kk kk1 => ?_) (by simp; omega) ?_
    · obtain ⟨rfl, hk⟩ := range_get hx
      have hk : k < row.length := by simpa using hk
      have et : cutL ((List.range row.length).map (limP row ms)) none (some ((k : Int) + 1)) = (List.range (k + 1)).map (limP row ms) := by
        rw [cutL_take _ (by omega), show ((k : Int) + 1).toNat = k + 1 by omega, ← List.map_take, List.take_range, Nat.min_eq_left (by omega)]
      simp [lcStep, encR, et, -lcGo]
      refine lc_encM' (limP row ms) (fun j => pN (lowD row ms j)) (fun i j hx2 k2 k3 => ?_) (by simp; omega) ?_
      · simp [lcStep, limP]
        exact k3
      · have e1 : (List.range (k + 1)).map (fun j => pN (lowD row ms j)) = ((List.range (k + 1)).map (lowD row ms)).map pN := by rw [List.map_map]; rfl
        rw [e1]
        refine ⟨_, allI_pN _, by simp, ?_⟩
        rw [maxL_topN, topN_range]
        exact kk1
    · have el : (List.range row.length).map (fun k => pN (loS row ms k)) = (csLo row ms).map pN := by unfold csLo; rw [List.map_map]; rfl
      rw [el]
      refine ⟨x, [("places", PyData.list ((placesL ms).map pN)), ("mates", matesP row)], ⟨rfl, rfl⟩, by simp, by omega, ?_⟩
      refine lc_encM (encR 0) (fun k => pN (hiS row ms k)) (fun i k hx kk kk1 => ?_) (by simp; omega) ?_
      · obtain ⟨rfl, hk⟩ := range_get hx
        have hk : k < row.length := by simpa using hk
        have bh := botN_hiS (ms := ms) hk
        have ll : ((List.range row.length).drop k).length = row.length - k := by rw [List.length_drop, List.length_range]
        have et : cutL ((List.range row.length).map (limP row ms)) (some (k : Int)) none = ((List.range row.length).drop k).map (limP row ms) := by
          rw [cutL_drop _ (by omega), Int.toNat_natCast, List.map_drop]
        generalize (List.range row.length).drop k = Ld at bh et ll
        simp [lcStep, encR, et, -lcGo]
        refine lc_encM' (L := Ld) (limP row ms) (fun j => pN (highD row ms j)) (fun i j hx2 k2 k3 => ?_) (by omega) ?_
        · simp [lcStep, limP]
          exact k3
        · have e1 : Ld.map (fun j => pN (highD row ms j)) = (Ld.map (highD row ms)).map pN := by rw [List.map_map]; rfl
          rw [e1]
          refine ⟨_, allI_pN _, ?_, ?_⟩
          · intro e
            have := congrArg List.length e
            simp at this
            rw [this] at ll
            simp at ll
            omega
          rw [minL_botN, bh]
          exact kk1
      · have eh : (List.range row.length).map (fun k => pN (hiS row ms k)) = (csHi row ms).map pN := by unfold csHi; rw [List.map_map]; rfl
        rw [eh]
        refine ⟨x, [("places", PyData.list ((placesL ms).map pN)), ("mates", matesP row), ("lows", PyData.list ((csLo row ms).map pN))], ⟨rfl, rfl⟩, by simp, PyData.list ((csLo row ms).map pN), rfl, PyData.list ((csHi row ms).map pN), rfl, ?_⟩
        have ez : zip2P ((csLo row ms).map pN) ((csHi row ms).map pN) = (List.range row.length).map fun k => PyData.tuple [pN (loS row ms k), pN (hiS row ms k)] := by
          unfold zip2P csLo csHi
          rw [List.map_map, List.map_map, List.zip_map', List.map_map]
          rfl
        show lcGo _ _ _ _ ((zip2P ((csLo row ms).map pN) ((csHi row ms).map pN)).map D.py) [] _
        rw [ez]
        refine lc_encM (fun k => PyData.tuple [pN (loS row ms k), pN (hiS row ms k)]) (fun k => .bool (decide (hiS row ms k < loS row ms k))) (fun i k hx kk kk1 => ?_) (by simp; omega) ?_
        · simp [lcStep, pN]
          exact kk1
        · have eb : (List.range row.length).map (fun k => PyData.bool (decide (hiS row ms k < loS row ms k))) = ((List.range row.length).map fun k => decide (hiS row ms k < loS row ms k)).map PyData.bool := by rw [List.map_map]; rfl
          rw [eb]
          refine ⟨_, allB_mk _, ?_⟩
          have ps := poss_stairs hk
          cases ha : ((List.range row.length).map fun k => decide (hiS row ms k < loS row ms k)).any (fun k => k) with
          | true =>
            refine q.2 fun hp => ?_
            obtain ⟨z, hz, hz2⟩ := List.any_eq_true.mp ha
            obtain ⟨k, hk2, rfl⟩ := List.mem_map.mp hz
            have := ps.mp hp k (List.mem_range.mp hk2)
            simp at hz2
            omega
          | false =>
            have hp : Poss row ms := ps.mpr fun k hk2 => by
              have := List.any_eq_false.mp ha (decide (hiS row ms k < loS row ms k)) (List.mem_map.mpr ⟨k, List.mem_range.mpr hk2, rfl⟩)
              simp at this
              omega
            exact ⟨limF row ms, ⟨rfl, rfl⟩, q.1 hp⟩
  · refine q.2 fun hp => ?_
    exact hn (wrongL_nil.mp hp.1 k hk)
end LawP
set_option Elab.async false
set_option linter.all false
set_option maxRecDepth 100000
set_option maxHeartbeats 4000000
namespace LawP
open PySem PySem.Spec PyProof.Rows L2 VL
def t_bounds_of (S_is_possible : SV) (S_stairs : SV) : VS :=
  (sSeq (sIf (wNot (vTst (vCall S_is_possible (vCons (vVar 0) (vCons (vVar 1) vNil)))))
  (sRaise0 "Impossible")
  sNext)
  (sRet (vCall S_stairs (vCons (vVar 0) (vCons (vVar 1) vNil)))))
end LawP
set_option Elab.async false
set_option linter.all false
set_option maxRecDepth 100000
set_option maxHeartbeats 4000000
namespace LawP
open PySem PySem.Spec PyProof.Rows L2 VL
@[simp] def S_h_groups (r : Addr) : SV
  | [.raw v, .py (.int m)], Q, _ => v = .ref r ∧ 1 ≤ m ∧ m ≤ 40 ∧ ∀ gs : List Int, gs ≠ [] → gs.length ≤ m → (∀ g ∈ gs, 0 ≤ g ∧ g ≤ 1000000000) → Q (.py (tI gs))
  | _, _, _ => False
@[simp] def S_h_letters (r : Addr) : SV := fun ds Q _ => ∃ n : Nat, ds = [.raw (.ref r), .py (.int (n : Nat))] ∧ n ≤ 40 ∧ ∀ w : List Nat, HistW n w → Q (.py (.str (mkS w)))
@[simp] def S_h_served : SV := fun ds Q _ => ∃ (row : List Int) (w : List Nat), ds = [.py (tI row), .py (.str (mkS w))] ∧ row.length ≤ 1000 ∧ w.length ≤ 100000 ∧ HistW row.length w ∧ Q (.py (tN (ordL row w)))
@[simp] def S_h_counts : SV := fun ds Q _ => ∃ (n : Nat) (w : List Nat), ds = [.py (.str (mkS w))] ∧ n ≤ 1000 ∧ HistW n w ∧ Q (.py (.list ((cntsL 0 w).map pN)))
/-! ### all words, in the order of texts -/
def ltW (a b : List Nat) : Prop := ltCps a b = true
theorem sl_mkS (w : List Nat) : (mkS w).cps.toList = w := by simp [mkS]
@[simp] def S_h_words : SV := fun ds Q _ => ∃ n : Nat, ds = [.py (.int (n : Nat))] ∧ n ≤ 10 ∧ ∀ L : List (List Nat), (∀ w, w ∈ L ↔ HistW n w) → L.Pairwise ltW → L.length ≤ 2 ^ (2 * n) → Q (.py (.list (L.map fun w => PyData.str (mkS w))))
@[simp] def S_h_having : SV := fun ds Q _ => ∃ (row : List Int) (ms : List Nat), ds = [.py (tI row), .py (tN ms)] ∧ row.length ≤ 7 ∧ ∀ L : List (List Nat), (∀ w, w ∈ L ↔ HistW row.length w ∧ ordL row w = ms) → L.Pairwise ltW → L.length ≤ 20000 → Q (.py (.list (L.map fun w => PyData.str (mkS w))))
end LawP
set_option Elab.async false
set_option linter.all false
set_option maxRecDepth 100000
set_option maxHeartbeats 4000000
namespace LawP
open PySem PySem.Spec PyProof.Rows L2 VL
end LawP
set_option Elab.async false
set_option linter.all false
set_option maxRecDepth 100000
set_option maxHeartbeats 4000000
namespace LawP
open PySem PySem.Spec PyProof.Rows L2 VL
/-! ### the law's own stairs -/
def ownP (row : List Int) (ms : List Nat) (k : Nat) : PyData := if nearB row ms k = true ∨ leadB ms k = true then .list [pN (lowD row ms k), pN (highD row ms k)] else .none
@[simp] def S_h_own_bounds : SV := fun ds Q _ => ∃ (row : List Int) (ms : List Nat) (k : Nat), ds = [.py (tI row), .py (tN ms), .py (.int (k : Nat))] ∧ ms.Perm (List.range row.length) ∧ k < row.length ∧ row.length ≤ 40 ∧ Q (.py (ownP row ms k))
def stairsP (row : List Int) (ms : List Nat) : PyData := if possB row ms then .list [.list ((csLo row ms).map pN), .list ((csHi row ms).map pN)] else .none
@[simp] def S_h_stairs : SV := fun ds Q _ => ∃ (row : List Int) (ms : List Nat), ds = [.py (tI row), .py (tN ms)] ∧ row ≠ [] ∧ ms.Perm (List.range row.length) ∧ row.length ≤ 40 ∧ Q (.py (stairsP row ms))
/-! ### the same -/
def leafP : PyData → Bool
  | .list _ => false
  | .tuple _ => false
  | .dict _ => false
  | _ => true
def flatN : Nat → PyData → Prop
  | 0, p => leafP p = true
  | n + 1, p => leafP p = true ∨ ∃ xs, (p = .list xs ∨ p = .tuple xs) ∧ xs.length ≤ 1000000 ∧ ∀ x ∈ xs, flatN n x
@[simp] def S_h_same : Nat → SV
  | 0 => fun _ _ _ => False
  | n + 1 => fun ds Q _ => ∃ p, ds = [.py p, .py p] ∧ flatN n p ∧ Q (.py (.bool true))
theorem ord_ne {n : Nat} {p : PyData} {ms : List Nat} (e : p = tN ms) (hp : ms.Perm (List.range n)) (h : ordB n p = false) : False := by
  subst e
  rw [ordB_iff.mpr ⟨ms, rfl, hp⟩] at h
  cases h
@[simp] def S_bounds_of : SV := fun ds Q E => ∃ (row : List Int) (p : PyData), ds = [.py (tI row), .py p] ∧ row ≠ [] ∧ row.length ≤ 40 ∧ (∀ ms, p = tN ms → ms.Perm (List.range row.length) → (Poss row ms → Q (.py (.tuple [tN (csLo row ms), tN (csHi row ms)]))) ∧ (¬ Poss row ms → E ⟨"Impossible", []⟩)) ∧ (ordB row.length p = false → E ⟨"NoOrder", []⟩)
theorem l_bounds_of : ∀ ds Q E, S_bounds_of ds Q E → t_bounds_of S_is_possible S_stairs (envOf 2 ds) (fin Q E) := by
  rintro ds Q E ⟨row, p, rfl, h0, hl, q1, q2⟩
  simp [t_bounds_of, -S_is_possible, -S_stairs]
  refine ⟨row, p, rfl, h0, hl, fun ms e hp => ?_, q2⟩
  subst e
  obtain ⟨q3, q4⟩ := q1 ms rfl hp
  cases c : possB row ms with
  | true =>
    simp [-S_stairs]
    refine ⟨row, tN ms, rfl, h0, hl, fun ms' e _ => ?_, fun h => (ord_ne rfl hp h).elim⟩
    obtain rfl := tN_inj.mp e
    exact q3 (possB_iff.mp c)
  | false =>
    simp
    exact q4 fun h => by rw [possB_iff.mpr h] at c; cases c
def fixP (row : List Int) (ms : List Nat) (k : Nat) : PyData := if loS row ms k = hiS row ms k then pN (loS row ms k) else .none
@[simp] def S_fixed_counts : SV := fun ds Q E => ∃ (row : List Int) (p : PyData), ds = [.py (tI row), .py p] ∧ row ≠ [] ∧ row.length ≤ 40 ∧ (∀ ms, p = tN ms → ms.Perm (List.range row.length) → (Poss row ms → Q (.py (.tuple ((List.range row.length).map (fixP row ms))))) ∧ (¬ Poss row ms → E ⟨"Impossible", []⟩)) ∧ (ordB row.length p = false → E ⟨"NoOrder", []⟩)
end LawP
set_option Elab.async false
set_option linter.all false
set_option maxRecDepth 100000
set_option maxHeartbeats 4000000
namespace LawP
open PySem PySem.Spec PyProof.Rows L2 VL
def t_Table_init (S_require_order : SV) (S_is_possible : SV) (S_bounds_of : SV) : VS :=
  (sSeq (sExpr (vCall S_require_order (vCons (vVar 1) (vCons (vVar 2) vNil))))
  (sSeq (sFld2 0 "Table" "lows" "highs" (vIf (vTst (vCall S_is_possible (vCons (vVar 1) (vCons (vVar 2) vNil)))) (vCall S_bounds_of (vCons (vVar 1) (vCons (vVar 2) vNil))) (vTup (vCons (vTup vNil) (vCons (vTup vNil) vNil)))))
  (sSeq (sFldS 0 "Table" "numbers" (vLst vNil))
  (sSeq (sSet 3 (vDI (vCal gLen (vCons (vBor 1) vNil)) 1))
  (sFor (iS (vBkA (vCal gLstZ (vCons (vUn (gFld "Table" "lows") (vBor 0)) (vCons (vUn (gFld "Table" "highs") (vBor 0)) vNil))) (oAt (vUn gNeg (vC (.py (.int 1))))))) (tgTup 2 (tgCons (tgName 4) (tgCons (tgName 5) tgNil)))
  (sSeq (sPar [6, 7] (mCons true vD0 (mCons false (vCal gSum (vCons (vLock 3 (vLc [9, 10] (iIt 3) (tgTup 2 (tgCons (tgName 9) (tgCons (tgName 10) tgNil))) (vTst (vBin gGt (vBor 9) (vBor 5))) (vVar 10))) vNil)) mNil)))
  (sSeq (sFor (iR3 (vCons (vBor 5) (vCons (vBin gSub (vBor 4) (vC (.py (.int 1)))) (vCons (vUn gNeg (vC (.py (.int 1)))) vNil)))) (tgName 8)
  (sSeq (sAugA 7 gAugAdd (vDGet2 (vBor 3) (vVar 8) (vC (.py (.int 0)))))
  (sDPutO 6 (vVar 8) (vVar 7))))
  (sSeq (sFrz 6 (sFldS 0 "Table" "numbers" (vLst (vCons (vVar 6) (vStar (vUn (gFld "Table" "numbers") (vBor 0)) vNil)))))
  (sFrz 6 (sSet 3 (vVar 6)))))))))))
def t_earliest (S_Table_init : SI) (S_word_with : SV) : VS :=
  (sSeq (sSet 2 (vMake "Table" S_Table_init (vCons (vVar 0) (vCons (vVar 1) vNil))))
  (sRet (vIf (vTst (vBin gNe (vUn (gFld "Table" "numbers") (vBor 2)) (vLst vNil))) (vCall S_word_with (vCons (vUn (gFld "Table" "highs") (vBor 2)) vNil)) (vC (.py .none)))))
def t_latest (S_Table_init : SI) (S_word_with : SV) : VS :=
  (sSeq (sSet 2 (vMake "Table" S_Table_init (vCons (vVar 0) (vCons (vVar 1) vNil))))
  (sRet (vIf (vTst (vBin gNe (vUn (gFld "Table" "numbers") (vBor 2)) (vLst vNil))) (vCall S_word_with (vCons (vUn (gFld "Table" "lows") (vBor 2)) vNil)) (vC (.py .none)))))
end LawP
set_option Elab.async false
set_option linter.all false
set_option maxRecDepth 100000
set_option maxHeartbeats 4000000
namespace LawP
open PySem PySem.Spec PyProof.Rows L2 VL
end LawP
set_option Elab.async false
set_option linter.all false
set_option maxRecDepth 100000
set_option maxHeartbeats 4000000
namespace LawP
open PySem PySem.Spec PyProof.Rows L2 VL
/-! M22: the table of numbers -/
def geS (P : List (Nat × Nat)) (c : Nat) : Nat := ((P.filter fun p => decide (c ≤ p.1)).map (·.2)).sum
def getN (P : List (Nat × Nat)) (c : Nat) : Nat := ((P.find? fun p => decide (p.1 = c)).map (·.2)).getD 0
theorem geS_cons (a m : Nat) (P : List (Nat × Nat)) (c : Nat) : geS ((a, m) :: P) c = (if c ≤ a then m else 0) + geS P c := by
  unfold geS
  by_cases h : c ≤ a
  · rw [List.filter_cons_of_pos (by simpa using h), if_pos h]; simp
  · rw [List.filter_cons_of_neg (by simpa using h), if_neg h]; simp
theorem getN_none {P : List (Nat × Nat)} {c : Nat} (h : c ∉ P.map (·.1)) : getN P c = 0 := by
  unfold getN
  rw [List.find?_eq_none.mpr fun p hp => by
    have : p.1 ≠ c := fun e => h (e ▸ List.mem_map_of_mem hp)
    simpa using this]
  rfl
theorem getN_cons (a m : Nat) (P : List (Nat × Nat)) (c : Nat) : getN ((a, m) :: P) c = if a = c then m else getN P c := by
  unfold getN
  by_cases h : a = c
  · rw [List.find?_cons_of_pos (by simpa using h), if_pos h]; rfl
  · rw [List.find?_cons_of_neg (by simpa using h), if_neg h]
theorem geS_step : ∀ {P : List (Nat × Nat)}, (P.map (·.1)).Nodup → ∀ c, geS P c = geS P (c + 1) + getN P c
  | [], _, c => rfl
  | (a, m) :: P, nd, c => by
    rw [List.map_cons, List.nodup_cons] at nd
    have ih := geS_step nd.2 c
    rw [geS_cons, geS_cons, getN_cons]
    by_cases e : a = c
    · subst e
      have := getN_none nd.1
      rw [if_pos (Nat.le_refl _), if_neg (by omega), if_pos rfl]
      simp only at this ih ⊢
      omega
    · rw [if_neg e]
      by_cases h : c ≤ a
      · rw [if_pos h, if_pos (by omega)]; omega
      · rw [if_neg h, if_neg (by omega)]; omega
def rowT (lo hi : Nat) (P : List (Nat × Nat)) : List (Nat × Nat) := (List.range (hi + 1 - lo)).map fun i => (hi - i, geS P (hi - i))
def tabD (n : Nat) : List (Nat × Nat) → List (Nat × Nat)
  | [] => [(n, 1)]
  | (lo, hi) :: r => rowT lo hi (tabD n r)
def dctN (P : List (Nat × Nat)) : List (PyData × PyData) := P.map fun p => (pN p.1, pN p.2)
def tabN (n : Nat) : List (Nat × Nat) → List PyData
  | [] => []
  | x :: r => .dict (dctN (tabD n (x :: r))) :: tabN n r
theorem tabD_nodup (n : Nat) : ∀ L : List (Nat × Nat), ((tabD n L).map (·.1)).Nodup
  | [] => by simp [tabD]
  | (lo, hi) :: r => by
    unfold tabD rowT
    rw [List.map_map]
    rw [List.Nodup, List.pairwise_map]
    refine List.Pairwise.imp_of_mem (fun {x y} hx hy hlt e => ?_) (List.pairwise_lt_range (n := hi + 1 - lo))
    have hx := List.mem_range.mp hx
    have hy := List.mem_range.mp hy
    simp at e
    omega
theorem tabD_len {n : Nat} : ∀ {L : List (Nat × Nat)}, (∀ x ∈ L, x.2 ≤ 40) → (tabD n L).length ≤ 41
  | [], _ => by simp [tabD]
  | (lo, hi) :: r, h => by
    have := h (lo, hi) List.mem_cons_self
    simp [tabD, rowT]
    simp at this
    omega
theorem getD_dct (P : List (Nat × Nat)) (c : Nat) : ((getD (dctN P) (.inl (c : Int))).getD (.int 0)) = pN (getN P c) := by
  unfold getD dctN getN
  induction P with
  | nil => rfl
  | cons p P ih =>
    rw [List.map_cons]
    by_cases e : p.1 = c
    · rw [List.find?_cons_of_pos (by simp [pN, VL.keyOf]; omega), List.find?_cons_of_pos (by simpa using e)]
      rfl
    · rw [List.find?_cons_of_neg (by simp [pN, VL.keyOf]; omega), List.find?_cons_of_neg (by simpa using e)]
      exact ih
theorem put_dct {P : List (Nat × Nat)} {c m : Nat} (h : c ∉ P.map (·.1)) : putD (dctN P) (.inl (c : Int)) (pN m) = dctN (P ++ [(c, m)]) := by
  unfold putD
  rw [if_neg ?_]
  · unfold dctN
    rw [List.map_append]
    rfl
  · rw [Bool.not_eq_true, List.any_eq_false]
    intro p hp
    unfold dctN at hp
    obtain ⟨q, hq, rfl⟩ := List.mem_map.mp hp
    have : q.1 ≠ c := fun e => h (e ▸ List.mem_map_of_mem hq)
    simp [pN, VL.keyOf]; omega
theorem dct_leaf (P : List (Nat × Nat)) : ∀ p ∈ dctN P, leafB p.2 = true := fun p hp => by
  unfold dctN at hp
  obtain ⟨q, _, rfl⟩ := List.mem_map.mp hp
  rfl
theorem items_dct (P : List (Nat × Nat)) : itemsP (dctN P) = P.map fun p => PyData.tuple [pN p.1, pN p.2] := by
  unfold itemsP dctN
  rw [List.map_map]
  rfl
theorem sum_cast : ∀ L : List Nat, (L.map fun (n : Nat) => (n : Int)).sum = (L.sum : Nat)
  | [] => rfl
  | a :: L => by simp [sum_cast L]
end LawP
set_option Elab.async false
set_option linter.all false
set_option maxRecDepth 100000
set_option maxHeartbeats 4000000
namespace LawP
open PySem PySem.Spec PyProof.Rows L2 VL
@[simp] def S_h_written : SV := fun ds Q _ => ∃ cs : List Nat, ds = [.py (.list (cs.map pN))] ∧ cs.length ≤ 1000 ∧ (∀ c ∈ cs, c ≤ 1000) ∧ Q (.py (.str (mkS (wordC cs.length 0 cs))))
@[simp] def S_h_mixed (r : Addr) : SV := fun ds Q _ => ∃ n : Nat, ds = [.raw (.ref r), .py (.int (n : Nat))] ∧ n ≤ 1000 ∧ ∀ ms : List Nat, ms.Perm (List.range n) → Q (.py (tN ms))
@[simp] def S_h_order (r : Addr) : SV := fun ds Q _ => ∃ row : List Int, ds = [.raw (.ref r), .py (tI row)] ∧ row ≠ [] ∧ row.length ≤ 40 ∧ ∀ ms : List Nat, ms.Perm (List.range row.length) → Q (.py (tN ms))
theorem bad_word {n : Nat} : ∀ {cs : List Nat} {s a : Nat}, a + cs.length = n → (∀ x ∈ cs, s ≤ x) → cs.Pairwise (· ≤ ·) → (∀ i x, cs[i]? = some x → x ≤ a + i) → badC s a (cs.map pN) = none ∧ wordP s a (cs.map pN) = wordC n s cs
  | [], s, a, hn, _, _, _ => by
    simp [badC, wordP, wordC] at hn ⊢
    omega
  | c :: cs, s, a, hn, h1, h2, h3 => by
    have hc := h1 c List.mem_cons_self
    have hca := h3 0 c rfl
    rw [List.pairwise_cons] at h2
    have ih := bad_word (n := n) (cs := cs) (s := c) (a := a + 1) (by simp at hn; omega) h2.1 h2.2 (fun i x hx => by have := h3 (i + 1) x (by simpa using hx); omega)
    have e : ((c : Int) - s).toNat = c - s := by omega
    refine ⟨?_, ?_⟩
    · show (if (s : Int) ≤ (c : Int) ∧ (c : Int) ≤ (a : Nat) then badC (c : Nat) (a + 1) (cs.map pN) else some a) = none
      rw [if_pos ⟨by omega, by omega⟩]
      exact ih.1
    · show List.replicate ((c : Int) - s).toNat 115 ++ 97 :: wordP (c : Nat) (a + 1) (cs.map pN) = List.replicate (c - s) 115 ++ 97 :: wordC n c cs
      rw [e, ih.2]
theorem CntOk.bad {n : Nat} {cs : List Nat} (h : CntOk n cs) : badC 0 0 (cs.map pN) = none ∧ wordP 0 0 (cs.map pN) = wordC n 0 cs :=
  bad_word (s := 0) (a := 0) (by rw [h.len]; omega) (fun _ _ => Nat.zero_le _) h.pair fun i x hx => by
    have hi : i < cs.length := (List.getElem?_eq_some_iff.mp hx).1
    have := h.le i (by rw [← h.len]; exact hi)
    rw [fnOf_get hi] at this
    rw [List.getElem?_eq_getElem hi] at hx
    cases hx
    omega
/-! ### the table -/
def bndL (row : List Int) (ms : List Nat) : List (Nat × Nat) := (List.range row.length).map fun k => (loS row ms k, hiS row ms k)
def tabF (row : List Int) (ms : List Nat) : List (Str × PyData) := if possB row ms = true then [("lows", tN (csLo row ms)), ("highs", tN (csHi row ms)), ("numbers", .list (tabN row.length (bndL row ms)))] else [("lows", .tuple []), ("highs", .tuple []), ("numbers", .list [])]
@[simp] def S_Table_init : SI := fun ds Q E => ∃ (row : List Int) (p : PyData), ds = [.py (tI row), .py p] ∧ row ≠ [] ∧ row.length ≤ 40 ∧ (∀ ms, p = tN ms → ms.Perm (List.range row.length) → Q (tabF row ms)) ∧ (ordB row.length p = false → E ⟨"NoOrder", []⟩)
def tabG : VTg := tgTup 2 (tgCons (tgName 4) (tgCons (tgName 5) tgNil))
def tabB : VS := (sSeq (sPar [6, 7] (mCons true vD0 (mCons false (vCal gSum (vCons (vLock 3 (vLc [9, 10] (iIt 3) (tgTup 2 (tgCons (tgName 9) (tgCons (tgName 10) tgNil))) (vTst (vBin gGt (vBor 9) (vBor 5))) (vVar 10))) vNil)) mNil)))
  (sSeq (sFor (iR3 (vCons (vBor 5) (vCons (vBin gSub (vBor 4) (vC (.py (.int 1)))) (vCons (vUn gNeg (vC (.py (.int 1)))) vNil)))) (tgName 8)
  (sSeq (sAugA 7 gAugAdd (vDGet2 (vBor 3) (vVar 8) (vC (.py (.int 0)))))
  (sDPutO 6 (vVar 8) (vVar 7))))
  (sSeq (sFrz 6 (sFldS 0 "Table" "numbers" (vLst (vCons (vVar 6) (vStar (vUn (gFld "Table" "numbers") (vBor 0)) vNil)))))
  (sFrz 6 (sSet 3 (vVar 6))))))
def prP (y : Nat × Nat) : PyData := .tuple [pN y.1, pN y.2]
theorem tabN_len (n : Nat) : ∀ L : List (Nat × Nat), (tabN n L).length = L.length
  | [] => rfl
  | _ :: L => congrArg (· + 1) (tabN_len n L)
theorem pys_all : ∀ L : List PyData, pys (L.map D.py) = some L
  | [] => rfl
  | p :: L => by simp [pys_all L]
theorem tab_loop {x : Addr} {n : Nat} (L : List (Nat × Nat)) (hn : L.length ≤ 40) (hL : ∀ y ∈ L, y.1 ≤ y.2 ∧ y.2 ≤ 40) (A B : PyData) {r1 r2 : VL.Slot} {De : VEnds}
    (q : ∀ ρ : VEnv, ρ[0]? = some (.own (.obj x "Table" [("lows", A), ("highs", B), ("numbers", .list (tabN n L))])) → De.nx ρ) :
    forGo tabG tabB ((L.reverse.map prP).map D.py) [.own (.obj x "Table" [("lows", A), ("highs", B), ("numbers", .list [])]), r1, r2, .shr (.py (.dict [(.int (n : Nat), .int 1)])), .un, .un, .un, .un, .un, .un, .un] De := by
  refine for_enc prP (fun i ρ => ∃ (s4 s5 s6 s7 s8 : VL.Slot), ρ = [.own (.obj x "Table" [("lows", A), ("highs", B), ("numbers", .list (tabN n (L.drop (L.length - i))))]), r1, r2, .shr (.py (.dict (dctN (tabD n (L.drop (L.length - i)))))), s4, s5, s6, s7, s8, .un, .un]) ⟨.un, .un, .un, .un, .un, ?_⟩ (fun i y ρ hy iv nx ct hn => ?_) (fun ρ iv => ?_)
  · rw [Nat.sub_zero, List.drop_length]; rfl
  · obtain ⟨s4, s5, s6, s7, s8, rfl⟩ := iv
    have hi : i < L.length := by simpa using (List.getElem?_eq_some_iff.mp hy).1
    rw [List.getElem?_reverse hi] at hy
    have ej : L.length - 1 - i = L.length - (i + 1) := by omega
    rw [ej] at hy
    have ed := drop_at' hy
    rw [show L.length - (i + 1) + 1 = L.length - i by omega] at ed
    have hb := hL y (List.mem_of_getElem? hy)
    have hl : (tabD n (L.drop (L.length - i))).length ≤ 41 := tabD_len fun z hz => (hL z (List.mem_of_mem_drop hz)).2
    have nd := tabD_nodup n (L.drop (L.length - i))
    generalize hP : tabD n (L.drop (L.length - i)) = P at hl nd
    obtain ⟨lo, hi'⟩ := y
    simp only at hb
    simp [tabG, tabB, prP, pN, leafB, flatS, items_dct, -forGo, -lcGo]
    refine ⟨fun a b h => by have := dct_leaf P _ h; simpa [leafB] using this, dctN P, rfl, ?_⟩
    rw [items_dct]
    refine lc_encF (fun p : Nat × Nat => PyData.tuple [pN p.1, pN p.2]) (fun p => decide (hi' + 1 ≤ p.1)) (fun p => pN p.2) (fun j z hz k k1 k2 => ?_) (by omega) ?_
    · simp [lcStep, pN]
      by_cases c : hi' < z.1
      · simp [c]; exact k1 (by simp; omega)
      · simp [c]; exact k2 (by simp; omega)
    · refine ⟨⟨_, rfl⟩, ?_⟩
      have ep : ((P.filter fun p => decide (hi' + 1 ≤ p.1)).map fun p => pN p.2) = ((P.filter fun p => decide (hi' + 1 ≤ p.1)).map (·.2)).map pN := by rw [List.map_map]; rfl
      rw [ep]
      show ∃ ns, allI _ = some ns ∧ _
      refine ⟨_, allI_pN _, ?_⟩
      rw [sum_cast]
      refine ⟨⟨by omega, by constructor <;> omega⟩, ?_⟩
      have em : ((hi' : Int) - (lo - 1)).toNat = hi' + 1 - lo := by omega
      rw [em]
      unfold rangeD
      show forGo _ _ (((List.range (hi' + 1 - lo)).map fun (k : Nat) => PyData.int ((hi' : Int) - k)).map D.py) _ _
      refine for_enc (fun (k : Nat) => PyData.int ((hi' : Int) - k)) (fun j ρ => ∃ s : VL.Slot, ρ = [.own (.obj x "Table" [("lows", A), ("highs", B), ("numbers", .list (tabN n (L.drop (L.length - i))))]), r1, r2, .shr (.py (.dict (dctN P))), .shr (.py (.int (lo : Nat))), .shr (.py (.int (hi' : Nat))), .own (.py (.dict (dctN ((List.range j).map fun i => (hi' - i, geS P (hi' - i)))))), .shr (.py (.int (geS P (hi' + 1 - j) : Nat))), s, .un, .un]) ⟨s8, rfl⟩ (fun j k ρ hk iv nx2 ct2 hn2 => ?_) (fun ρ iv => ?_)
      · obtain ⟨s, rfl⟩ := iv
        obtain ⟨rfl, hk⟩ := range_get hk
        have hk : k < hi' + 1 - lo := by simpa using hk
        have ec : (hi' : Int) - k = ((hi' - k : Nat) : Int) := by omega
        have gs := geS_step nd (hi' - k)
        rw [show hi' - k + 1 = hi' + 1 - k by omega] at gs
        have g0 := getD_dct P (hi' - k)
        simp [ec, VL.keyOf, g0, pN]
        refine ⟨by simp [dctN]; omega, (hn2 _ ⟨.shr (.py (.int ((hi' - k : Nat) : Int))), ?_⟩).1⟩
        have nk : hi' - k ∉ ((List.range k).map fun i => (hi' - i, geS P (hi' - i))).map (·.1) := fun hm => by
          rw [List.map_map] at hm
          obtain ⟨z, hz, e⟩ := List.mem_map.mp hm
          have hz := List.mem_range.mp hz
          simp at e
          omega
        have pd := put_dct (m := geS P (hi' - k)) nk
        have e1 : ((geS P (hi' + 1 - k) : Nat) : Int) + (getN P (hi' - k) : Nat) = (geS P (hi' - k) : Nat) := by omega
        rw [e1, show PyData.int ((geS P (hi' - k) : Nat) : Int) = pN (geS P (hi' - k)) from rfl, pd, List.range_succ, List.map_append, show hi' + 1 - (k + 1) = hi' - k by omega]
        rfl
      · obtain ⟨s, rfl⟩ := iv
        rw [List.length_range]
        have ln : (tabN n (L.drop (L.length - i))).length ≤ 40 := by rw [tabN_len, List.length_drop]; omega
        simp
        refine ⟨_, rfl, _, .inr rfl, ?_⟩
        rw [pys_all]
        refine ⟨by simp; omega, x, _, ⟨rfl, rfl⟩, by simp, (hn _ ⟨.shr (.py (.int (lo : Nat))), .shr (.py (.int (hi' : Nat))), .shr (.py (.dict (dctN (rowT lo hi' P)))), .shr (.py (.int ((geS P (hi' + 1 - (hi' + 1 - lo)) : Nat) : Int))), s, ?_⟩).1⟩
        have t1 : tabN n ((lo, hi') :: L.drop (L.length - i)) = .dict (dctN (rowT lo hi' P)) :: tabN n (L.drop (L.length - i)) := by rw [← hP]; rfl
        have t2 : tabD n ((lo, hi') :: L.drop (L.length - i)) = rowT lo hi' P := by rw [← hP]; rfl
        rw [ed, t1, t2]
        rfl
  · obtain ⟨s4, s5, s6, s7, s8, rfl⟩ := iv
    rw [List.length_reverse, Nat.sub_self, List.drop_zero]
    exact q _ rfl
theorem l_Table_init : ∀ x ds Q E, S_Table_init ds Q E → t_Table_init S_require_order S_is_possible S_bounds_of (envI x "Table" 11 ds) (finI x "Table" Q E) := by
  rintro x ds Q E ⟨row, p, rfl, h0, hl, q1, q2⟩
  simp [t_Table_init, -S_require_order, -S_is_possible, -S_bounds_of, -forGo, -lcGo]
  refine ⟨row, p, rfl, h0, hl, fun ho => ?_, q2⟩
  refine ⟨row, p, rfl, h0, hl, fun ms e hp => ?_, fun h => by rw [ho] at h; cases h⟩
  subst e
  have q := q1 ms rfl hp
  unfold tabF at q
  cases hb : possB row ms with
  | false =>
    rw [hb, if_neg (by simp)] at q
    simp [-forGo, -lcGo]
    refine ⟨_, _, ⟨rfl, rfl⟩, x, [], ⟨rfl, rfl⟩, by simp, x, [("lows", .tuple []), ("highs", .tuple [])], ⟨rfl, rfl⟩, by simp, .tuple [], rfl, .tuple [], rfl, ?_⟩
    refine ⟨rfl, ?_⟩
    exact tab_loop (n := row.length) [] (by simp) (by simp) (.tuple []) (.tuple []) fun ρ e => ⟨_, e, q⟩
  | true =>
    have po := possB_iff.mp hb
    rw [hb, if_pos rfl] at q
    simp [-forGo, -lcGo, -S_bounds_of]
    refine ⟨row, tN ms, rfl, h0, hl, fun ms' e _ => ?_, fun h => (ord_ne rfl hp h).elim⟩
    obtain rfl := tN_inj.mp e
    refine ⟨fun _ => ?_, fun h => absurd po h⟩
    refine ⟨_, _, rfl, x, [], ⟨rfl, rfl⟩, by simp, x, [("lows", tN (csLo row ms)), ("highs", tN (csHi row ms))], ⟨rfl, rfl⟩, by simp, tN (csLo row ms), rfl, tN (csHi row ms), rfl, ?_⟩
    refine ⟨by simp [csLo, csHi], ?_⟩
    have ez : zip2P ((csLo row ms).map pN) ((csHi row ms).map pN) = (bndL row ms).map prP := by
      unfold zip2P csLo csHi bndL
      rw [List.map_map, List.map_map, List.zip_map', List.map_map, List.map_map]
      rfl
    have bl : (bndL row ms).length = row.length := by simp [bndL]
    show forGo tabG tabB ((zip2P ((csLo row ms).map pN) ((csHi row ms).map pN)).reverse.map D.py) _ _
    rw [ez, ← List.map_reverse]
    refine tab_loop (n := row.length) (bndL row ms) (by omega) (fun y hy => ?_) _ _ fun ρ e => ⟨_, e, q⟩
    unfold bndL at hy
    obtain ⟨k, hk, rfl⟩ := List.mem_map.mp hy
    have hk := List.mem_range.mp hk
    have h1 := (csLo_fits po).between (fun i j hij hj => (csLo_ok hp po).up i j hij hj) hk
    have h2 := hiS_le_self (row := row) hp hk
    exact ⟨by show loS row ms k ≤ hiS row ms k; omega, by show hiS row ms k ≤ 40; omega⟩
def wordS (n : Nat) (cs : List Nat) : PyData := .str (mkS (wordC n 0 cs))
@[simp] def S_earliest : SV := fun ds Q E => ∃ (row : List Int) (p : PyData), ds = [.py (tI row), .py p] ∧ row ≠ [] ∧ row.length ≤ 40 ∧ (∀ ms, p = tN ms → ms.Perm (List.range row.length) → Q (.py (if possB row ms = true then wordS row.length (csHi row ms) else .none))) ∧ (ordB row.length p = false → E ⟨"NoOrder", []⟩)
@[simp] def S_latest : SV := fun ds Q E => ∃ (row : List Int) (p : PyData), ds = [.py (tI row), .py p] ∧ row ≠ [] ∧ row.length ≤ 40 ∧ (∀ ms, p = tN ms → ms.Perm (List.range row.length) → Q (.py (if possB row ms = true then wordS row.length (csLo row ms) else .none))) ∧ (ordB row.length p = false → E ⟨"NoOrder", []⟩)
theorem tabN_ne {row : List Int} {ms : List Nat} (h : row ≠ []) : (tabN row.length (bndL row ms)).isEmpty = false := by
  have h1 : (tabN row.length (bndL row ms)).length = row.length := by rw [tabN_len]; simp [bndL]
  have h2 := List.length_pos_iff.mpr h
  cases e : tabN row.length (bndL row ms) with
  | nil => rw [e] at h1; simp at h1; omega
  | cons a l => rfl
theorem tabF_num (row : List Int) (ms : List Nat) : (tabF row ms).lookup (Str.ofString "numbers") = some (.list (if possB row ms = true then tabN row.length (bndL row ms) else [])) := by
  unfold tabF; split <;> rfl
theorem tabF_lows (row : List Int) (ms : List Nat) : (tabF row ms).lookup (Str.ofString "lows") = some (tN (if possB row ms = true then csLo row ms else [])) := by
  unfold tabF; split <;> rfl
theorem tabF_highs (row : List Int) (ms : List Nat) : (tabF row ms).lookup (Str.ofString "highs") = some (tN (if possB row ms = true then csHi row ms else [])) := by
  unfold tabF; split <;> rfl
theorem csHi_len (row : List Int) (ms : List Nat) : (csHi row ms).length = row.length := by simp [csHi]
theorem csLo_len (row : List Int) (ms : List Nat) : (csLo row ms).length = row.length := by simp [csLo]
theorem l_earliest : ∀ ds Q E, S_earliest ds Q E → t_earliest S_Table_init S_word_with (envOf 3 ds) (fin Q E) := by
  rintro ds Q E ⟨row, p, rfl, h0, hl, q1, q2⟩
  simp [t_earliest, -S_Table_init, -S_word_with]
  refine ⟨row, p, rfl, h0, hl, fun ms e hp => ?_, q2⟩
  subst e
  have q := q1 ms rfl hp
  refine ⟨_, tabF_num row ms, ?_⟩
  cases hb : possB row ms with
  | false =>
    rw [hb] at q
    simpa using q
  | true =>
    rw [hb] at q
    have c := (csHi_ok hp).bad
    simp [tabN_ne h0, -S_word_with]
    refine ⟨_, tabF_highs row ms, ?_⟩
    rw [hb, if_pos rfl]
    refine ⟨by rw [List.length_map, csHi_len]; exact hl, c.1, ?_⟩
    rw [c.2]
    exact q
theorem l_latest : ∀ ds Q E, S_latest ds Q E → t_latest S_Table_init S_word_with (envOf 3 ds) (fin Q E) := by
  rintro ds Q E ⟨row, p, rfl, h0, hl, q1, q2⟩
  simp [t_latest, -S_Table_init, -S_word_with]
  refine ⟨row, p, rfl, h0, hl, fun ms e hp => ?_, q2⟩
  subst e
  have q := q1 ms rfl hp
  refine ⟨_, tabF_num row ms, ?_⟩
  cases hb : possB row ms with
  | false =>
    rw [hb] at q
    simpa using q
  | true =>
    rw [hb] at q
    have c := (csLo_ok hp (possB_iff.mp hb)).bad
    simp [tabN_ne h0, -S_word_with]
    refine ⟨_, tabF_lows row ms, ?_⟩
    rw [hb, if_pos rfl]
    refine ⟨by rw [List.length_map, csLo_len]; exact hl, c.1, ?_⟩
    rw [c.2]
    exact q
end LawP
set_option Elab.async false
set_option linter.all false
set_option maxRecDepth 100000
set_option maxHeartbeats 4000000
namespace LawP
open PySem PySem.Spec PyProof.Rows L2 VL
def t_check_persons (S_m_places_in : SV) (S_is_integer : SV) : VS :=
  (sSeq (sExpr (vCall S_m_places_in (vCons (vVar 0) (vCons (vVar 1) vNil))))
  (sFor (iS (vVar 2)) (tgName 3)
  (sIf (wNot (vTst (vCall S_is_integer (vCons (vVar 3) (vCons (vC (.py (.int 0))) (vCons (vBin gSub (vCal gLen (vCons (vBor 0) vNil)) (vC (.py (.int 1)))) vNil))))))
  (sRaise1 "NoPerson" "value" (vVar 3))
  sNext)))
def t_waiting_range (S_check_persons : SV) (S_Limits_init : SI) : VS :=
  (sSeq (sExpr (vCall (svStarN 2 S_check_persons) (vCons (vVar 0) (vCons (vVar 1) (vCons (vVar 2) vNil)))))
  (sSeq (sSet 3 (vMake "Limits" S_Limits_init (vCons (vVar 0) (vCons (vVar 1) vNil))))
  (sRet (vTup (vCons (vBin gSub (vBor 2) (vBin gIx (vUn (gFld "Limits" "highs") (vBor 3)) (vBor 2))) (vCons (vBin gSub (vBor 2) (vBin gIx (vUn (gFld "Limits" "lows") (vBor 3)) (vBor 2))) vNil))))))
end LawP
set_option Elab.async false
set_option linter.all false
set_option maxRecDepth 100000
set_option maxHeartbeats 4000000
namespace LawP
open PySem PySem.Spec PyProof.Rows L2 VL
/-! ### the longest line and the sum of the lines, by the counts -/
def upS (n s : Nat) : Nat := ((List.range' s (n - s)).map (· + 1)).sum
end LawP
set_option Elab.async false
set_option linter.all false
set_option maxRecDepth 100000
set_option maxHeartbeats 4000000
namespace LawP
open PySem PySem.Spec PyProof.Rows L2 VL
/-! ### persons judged -/
def badP (row : List Int) (x : PyData) : Bool := !isInt x 0 (row.length - 1)
@[simp] def S_check_persons : SV := fun ds Q E => ∃ (row : List Int) (p : PyData) (xs : List PyData), ds = [.py (tI row), .py p, .py (.tuple xs)] ∧ 0 < row.length ∧ row.length ≤ 40 ∧ longU p ∧ (ordB row.length p = false → E ⟨"NoOrder", []⟩) ∧
  (ordB row.length p = true → (∀ x, xs.find? (badP row) = some x → E ⟨"NoPerson", [("value", x)]⟩) ∧ (xs.find? (badP row) = none → Q (.py .none)))
theorem l_check_persons : ∀ ds Q E, S_check_persons ds Q E → t_check_persons S_m_places_in S_is_integer (envOf 4 ds) (fin Q E) := by
  rintro ds Q E ⟨row, p, xs, rfl, h0, hl, hp, q1, q2⟩
  simp [t_check_persons, -S_m_places_in, -forGo]
  refine ⟨row, p, rfl, h0, hl, hp, q1, fun ms em pm => ?_⟩
  subst em
  obtain ⟨q3, q4⟩ := q2 (ordB_tN pm)
  refine for_inv (xs := xs) (fun i ρ => ∃ z, ρ = [.shr (.py (tI row)), .shr (.py (tN ms)), .shr (.py (.tuple xs)), z] ∧ ∀ x ∈ xs.take i, badP row x = false) (fun i x ρ hx iv nx ct hn => ?_) (fun ρ iv => ?_) ⟨_, rfl, by simp⟩
  · obtain ⟨z, rfl, h⟩ := iv
    simp
    by_cases c : isInt x 0 (row.length - 1) = true
    · rw [if_pos c]
      refine (hn _ ⟨_, rfl, fun y hy => ?_⟩).1
      rw [take_succ_get hx] at hy
      rcases List.mem_append.mp hy with hy | hy
      · exact h y hy
      · rw [List.mem_singleton.mp hy]
        simp [badP, c]
    · rw [if_neg c]
      refine q3 x ?_
      have hi := (List.getElem?_eq_some_iff.mp hx)
      have e : xs = xs.take i ++ x :: xs.drop (i + 1) := by
        conv => lhs; rw [← List.take_append_drop i xs]
        rw [drop_at' hx]
      rw [e, List.find?_append, List.find?_eq_none.mpr (by intro y hy; simp [h y hy])]
      simp [badP, c]
  · obtain ⟨z, rfl, h⟩ := iv
    rw [List.take_length] at h
    simp
    exact q4 (List.find?_eq_none.mpr (by intro y hy; simp [h y hy]))
theorem isInt_nat {n : Nat} {x : PyData} (h : isInt x 0 ((n : Int) - 1) = true) : ∃ k : Nat, x = pN k ∧ k < n := by
  obtain ⟨c, rfl, h1, h2⟩ := isInt_ex h
  exact ⟨c.toNat, by simp [pN]; omega, by omega⟩
/-- door 0: whom it meets; door 1: how long it waits -/
def numP (row : List Int) (ms : List Nat) (k : Nat) (d : Bool) : PyData :=
  .tuple [pN ((if d = true then ms.idxOf k else k) - hiS row ms k), pN ((if d = true then ms.idxOf k else k) - loS row ms k)]
theorem hi_place {row : List Int} {ms : List Nat} {k : Nat} (hk : k < row.length) : hiS row ms k ≤ ms.idxOf k := Nat.le_trans (hiS_le (Nat.le_refl k) hk) (high_le row ms k)
theorem ghi {row : List Int} {ms : List Nat} {k : Nat} (hk : k < row.length) : atI ((csHi row ms).map pN) (k : Int) = some (pN (hiS row ms k)) := atI_nat (by unfold csHi; rw [List.map_map, List.getElem?_map, List.getElem?_range hk]; rfl)
theorem glo {row : List Int} {ms : List Nat} {k : Nat} (hk : k < row.length) : atI ((csLo row ms).map pN) (k : Int) = some (pN (loS row ms k)) := atI_nat (by unfold csLo; rw [List.map_map, List.getElem?_map, List.getElem?_range hk]; rfl)
def rngP (d : Bool) (row : List Int) (p x : PyData) (Q : D → Prop) (E : Er → Prop) : Prop := (ordB row.length p = false → E ⟨"NoOrder", []⟩) ∧ ∀ ms, p = tN ms → ms.Perm (List.range row.length) → (badP row x = true → E ⟨"NoPerson", [("value", x)]⟩) ∧ ∀ k, x = pN k → k < row.length → (¬ Poss row ms → E ⟨"Impossible", []⟩) ∧ (Poss row ms → Q (.py (numP row ms k d)))
@[simp] def S_waiting_range : SV := fun ds Q E => ∃ (row : List Int) (p x : PyData), ds = [.py (tI row), .py p, .py x] ∧ 0 < row.length ∧ row.length ≤ 40 ∧ longU p ∧ rngP false row p x Q E
@[simp] def S_wait_range : SV := fun ds Q E => ∃ (row : List Int) (p x : PyData), ds = [.py (tI row), .py p, .py x] ∧ 0 < row.length ∧ row.length ≤ 40 ∧ longU p ∧ rngP true row p x Q E
theorem l_waiting_range : ∀ ds Q E, S_waiting_range ds Q E → t_waiting_range S_check_persons S_Limits_init (envOf 4 ds) (fin Q E) := by
  rintro ds Q E ⟨row, p, x, rfl, h0, hl, hp, q1, q2⟩
  simp [t_waiting_range, -S_check_persons, -S_Limits_init]
  refine ⟨row, p, [x], rfl, h0, hl, hp, q1, fun ho => ?_⟩
  obtain ⟨ms, em, pm⟩ := ordB_iff.mp ho
  subst em
  obtain ⟨q3, q4⟩ := q2 ms rfl pm
  by_cases hb : badP row x = true
  · refine ⟨fun y hy => ?_, fun h => ?_⟩
    · have : x = y := by simpa [List.find?, hb] using hy
      rw [← this]
      exact q3 hb
    · simp [List.find?, hb] at h
  · have hb' : badP row x = false := by simpa using hb
    refine ⟨fun y hy => by simp [List.find?, hb'] at hy, fun _ => ?_⟩
    obtain ⟨k, rfl, hk⟩ := isInt_nat (n := row.length) (x := x) (by simpa [badP] using hb')
    obtain ⟨q5, q6⟩ := q4 k rfl hk
    refine ⟨row, tN ms, rfl, h0, hl, hp, q1, fun ms' em pm' => ?_⟩
    obtain rfl := tN_inj.mp em
    refine ⟨fun po => ?_, q5⟩
    have q := q6 po
    have l1 := hi_place (ms := ms) hk
    have l2 := hiS_le_self pm hk
    have l3 := po.stairs hk
    refine ⟨PyData.list ((csHi row ms).map pN), rfl, _, ghi hk, ?_⟩
    refine ⟨PyData.list ((csLo row ms).map pN), rfl, _, glo hk, ?_⟩
    show 2 ≤ 16777216 ∧ Q (.py (.tuple [.int ((k : Int) - (hiS row ms k : Nat)), .int ((k : Int) - (loS row ms k : Nat))]))
    have e1 : (k : Int) - (hiS row ms k : Nat) = ((k - hiS row ms k : Nat) : Int) := by omega
    have e2 : (k : Int) - (loS row ms k : Nat) = ((k - loS row ms k : Nat) : Int) := by omega
    rw [e1, e2]
    exact ⟨by decide, q⟩
end LawP
set_option Elab.async false
set_option linter.all false
set_option maxRecDepth 100000
set_option maxHeartbeats 4000000
namespace LawP
open PySem PySem.Spec PyProof.Rows L2 VL
def t_Limits_meeting : VS :=
  (sSeq (sIf (wOr (vTst (vBin gLe (vBor 1) (vBor 2))) (vTst (vBin gGt (vBin gIx (vUn (gFld "Limits" "lows") (vBor 0)) (vBor 1)) (vBin gIx (vUn (gFld "Limits" "places") (vBor 0)) (vBor 2)))))
  (sRet (vC (.py (.str "never"))))
  sNext)
  (sRet (vIf (vTst (vBin gLe (vBin gIx (vUn (gFld "Limits" "highs") (vBor 0)) (vBor 1)) (vBin gIx (vUn (gFld "Limits" "places") (vBor 0)) (vBor 2)))) (vC (.py (.str "always"))) (vC (.py (.str "sometimes"))))))
def t_Limits_met (S_Limits_meeting : SV) : VS :=
  (sRet (vCal gTuple (vCons (vLc [3] (iR1 (vCons (vBor 1) vNil)) (tgName 3) (vTst (vBin gEq (vMeth "Limits" "meeting" S_Limits_meeting (vVar 0) (vCons (vVar 1) (vCons (vVar 3) vNil))) (vBor 2))) (vVar 3)) vNil)))
def t_met_by (S_check_persons : SV) (S_Limits_init : SI) (S_Limits_met : SV) : VS :=
  (sSeq (sExpr (vCall (svStarN 2 S_check_persons) (vCons (vVar 0) (vCons (vVar 1) (vCons (vVar 2) vNil)))))
  (sSeq (sSet 3 (vMake "Limits" S_Limits_init (vCons (vVar 0) (vCons (vVar 1) vNil))))
  (sRet (vTup (vCons (vMeth "Limits" "met" S_Limits_met (vVar 3) (vCons (vVar 2) (vCons (vC (.py (.str "always"))) vNil))) (vCons (vMeth "Limits" "met" S_Limits_met (vVar 3) (vCons (vVar 2) (vCons (vC (.py (.str "sometimes"))) vNil))) vNil))))))
def t_meets (S_check_persons : SV) (S_Limits_meeting : SV) (S_Limits_init : SI) : VS :=
  (sSeq (sExpr (vCall (svStarN 2 S_check_persons) (vCons (vVar 0) (vCons (vVar 1) (vCons (vVar 2) (vCons (vVar 3) vNil))))))
  (sRet (vMeth "Limits" "meeting" S_Limits_meeting (vMake "Limits" S_Limits_init (vCons (vVar 0) (vCons (vVar 1) vNil))) (vCons (vVar 2) (vCons (vVar 3) vNil)))))
end LawP
set_option Elab.async false
set_option linter.all false
set_option maxRecDepth 100000
set_option maxHeartbeats 4000000
namespace LawP
open PySem PySem.Spec PyProof.Rows L2 VL
/-! ### whom a person meets, how long it waits -/
theorem playL_a (row : List Int) (a : Nat) (ws w : List Nat) : playL row a ws (97 :: w) = (97, a, ws, joinQ ws a (mateOf row a)) :: playL row (a + 1) (joinQ ws a (mateOf row a)) w := by rw [playL, if_pos rfl]
theorem playL_s (row : List Int) (a x : Nat) (ws w : List Nat) : playL row a (x :: ws) (115 :: w) = (115, x, x :: ws, ws) :: playL row a ws w := by rw [playL, if_neg (by decide)]; rfl
end LawP
set_option Elab.async false
set_option linter.all false
set_option maxRecDepth 100000
set_option maxHeartbeats 4000000
namespace LawP
open PySem PySem.Spec PyProof.Rows L2 VL
/-! ### all words of an order -/
theorem cnt_up {n : Nat} {cs : List Nat} (h : CntOk n cs) : ∀ i j, i ≤ j → j < n → fnOf cs i ≤ fnOf cs j := h.up
end LawP
set_option Elab.async false
set_option linter.all false
set_option maxRecDepth 100000
set_option maxHeartbeats 4000000
namespace LawP
open PySem PySem.Spec PyProof.Rows L2 VL
/-! ### who waits when a person comes -/
theorem meetW {row : List Int} {n : Nat} {ms : List Nat} (hnd : ms.Nodup) : ∀ {w : List Nat} {a s : Nat} {ws sv : List Nat}, goodW n a s w → ws.length + s = a → a ≤ n → sv.length = s → sv ++ servedL (stepsL row a ws w) = ms → (∀ b, b < a ↔ b ∈ sv ∨ b ∈ ws) →
    ∀ q ∈ playL row a ws w, q.1 = 97 → a ≤ q.2.1 ∧ q.2.1 < n ∧ ∀ b, b ∈ q.2.2.1 ↔ b < q.2.1 ∧ (cntsL s w).getD (q.2.1 - a) 0 ≤ ms.idxOf b
  | [], a, s, ws, sv, h, e, ha, hs, hm, hb, q, hq, h97 => by simp [playL] at hq
  | c :: w, a, s, ws, sv, h, e, ha, hs, hm, hb, q, hq, h97 => by
    have hg := h
    rcases h with ⟨rfl, h1, h⟩ | ⟨rfl, h1, h⟩
    · rw [playL_a] at hq
      rcases List.mem_cons.mp hq with rfl | hq
      · refine ⟨Nat.le_refl _, h1, fun b => ?_⟩
        have sp := served_perm (row := row) (ws := ws) hg e ha
        show b ∈ ws ↔ b < a ∧ (cntsL s (97 :: w)).getD (a - a) 0 ≤ ms.idxOf b
        rw [cntsL_a, Nat.sub_self, List.getD_cons_zero]
        have inS : b ∈ ws → b ∉ sv := fun h2 h3 => by
          have h4 : b ∈ servedL (stepsL row a ws (97 :: w)) := (sp.mem_iff).mpr (List.mem_append.mpr (.inl h2))
          rw [← hm] at hnd
          exact (List.nodup_append.mp hnd).2.2 b h3 b h4 rfl
        constructor
        · intro h2
          refine ⟨(hb b).mpr (.inr h2), ?_⟩
          rw [← hm, idx_right (inS h2)]
          omega
        · rintro ⟨h2, h3⟩
          rcases (hb b).mp h2 with h4 | h4
          · rw [← hm] at h3
            have := idx_lt_of (l2 := servedL (stepsL row a ws (97 :: w))) h4
            omega
          · exact h4
      · have ih := meetW (row := row) hnd (sv := sv) (ws := joinQ ws a (mateOf row a)) h (by rw [joinQ_len]; omega) (by omega) hs (by rw [← hm, stepsL_a, servedL_a]) (fun b => by
          rw [mem_joinQ]
          constructor
          · intro h2
            by_cases e2 : b = a
            · exact .inr (.inl e2)
            · exact ((hb b).mp (by omega)).imp id .inr
          · rintro (h2 | rfl | h2)
            · have := (hb b).mpr (.inl h2); omega
            · omega
            · have := (hb b).mpr (.inr h2); omega) q hq h97
        refine ⟨by omega, ih.2.1, fun b => ?_⟩
        rw [ih.2.2 b, cntsL_a]
        obtain ⟨d, hd⟩ : ∃ d, q.2.1 - a = d + 1 := ⟨q.2.1 - a - 1, by omega⟩
        rw [hd, List.getD_cons_succ, show q.2.1 - (a + 1) = d by omega]
    · cases ws with
      | nil => simp at e; omega
      | cons x ws =>
        rw [playL_s] at hq
        rcases List.mem_cons.mp hq with rfl | hq
        · simp at h97
        · have ih := meetW (row := row) hnd (sv := sv ++ [x]) (ws := ws) h (by simp at e; omega) ha (by simp; omega) (by rw [← hm, stepsL_s, servedL_s, List.append_assoc]; rfl) (fun b => by
            rw [hb b, List.mem_append, List.mem_singleton, List.mem_cons]
            constructor
            · rintro (h2 | h2 | h2)
              · exact .inl (.inl h2)
              · exact .inl (.inr h2)
              · exact .inr h2
            · rintro ((h2 | h2) | h2)
              · exact .inl h2
              · exact .inr (.inl h2)
              · exact .inr (.inr h2)) q hq h97
          rw [cntsL_s]
          exact ih
theorem meet_is {row : List Int} {w : List Nat} (h : HistW row.length w) : ∀ q ∈ playL row 0 [] w, q.1 = 97 → q.2.1 < row.length ∧ ∀ b, b ∈ q.2.2.1 ↔ b < q.2.1 ∧ fnOf (cntsL 0 w) q.2.1 ≤ (ordL row w).idxOf b := fun q hq h97 => by
  have := meetW (row := row) (perm_nodup (ordL_perm h)) (sv := []) (ws := []) h rfl (Nat.zero_le _) rfl rfl (by simp) q hq h97
  refine ⟨this.2.1, fun b => ?_⟩
  rw [this.2.2 b]
  rfl
theorem arr_all {row : List Int} {n : Nat} : ∀ {w : List Nat} {a s : Nat} {ws : List Nat}, goodW n a s w → ws.length + s = a → ∀ k, a ≤ k → k < n → ∃ q ∈ playL row a ws w, q.1 = 97 ∧ q.2.1 = k
  | [], a, s, ws, h, e, k, h1, h2 => by
    obtain ⟨h3, _⟩ := h
    omega
  | c :: w, a, s, ws, h, e, k, h1, h2 => by
    rcases h with ⟨rfl, h3, h⟩ | ⟨rfl, h3, h⟩
    · rw [playL_a]
      by_cases ek : k = a
      · subst ek
        exact ⟨_, List.mem_cons_self, rfl, rfl⟩
      · obtain ⟨q, g1, g2⟩ := arr_all (row := row) (ws := joinQ ws a (mateOf row a)) h (by rw [joinQ_len]; omega) k (by omega) h2
        exact ⟨q, List.mem_cons_of_mem _ g1, g2⟩
    · cases ws with
      | nil => simp at e; omega
      | cons x ws =>
        rw [playL_s]
        obtain ⟨q, g1, g2⟩ := arr_all (row := row) (ws := ws) h (by simp at e; omega) k h1 h2
        exact ⟨q, List.mem_cons_of_mem _ g1, g2⟩
/-- the persons that find their mate -/
def jnQ (row : List Int) (q : Nat × Nat × List Nat × List Nat) : Bool := q.1 == 97 && (match mateOf row q.2.1 with | some m => decide (m ∈ q.2.2.1) | none => false)
def jnL (row : List Int) (w : List Nat) : List Nat := ((playL row 0 [] w).filter (jnQ row)).map fun q => q.2.1
theorem mem_jnL {row : List Int} {w : List Nat} (h : HistW row.length w) {k : Nat} : k ∈ jnL row w ↔ k < row.length ∧ ∃ m, mateOf row k = some m ∧ fnOf (cntsL 0 w) k ≤ (ordL row w).idxOf m := by
  unfold jnL
  rw [List.mem_map]
  constructor
  · rintro ⟨q, hq, rfl⟩
    obtain ⟨h1, h2⟩ := List.mem_filter.mp hq
    unfold jnQ at h2
    rw [Bool.and_eq_true] at h2
    have h97 : q.1 = 97 := by simpa using h2.1
    obtain ⟨g1, g2⟩ := meet_is h q h1 h97
    refine ⟨g1, ?_⟩
    cases hm : mateOf row q.2.1 with
    | none => rw [hm] at h2; simp at h2
    | some m =>
      rw [hm] at h2
      exact ⟨m, rfl, ((g2 m).mp (by simpa using h2.2)).2⟩
  · rintro ⟨hk, m, hm, hc⟩
    obtain ⟨q, g1, g2, rfl⟩ := arr_all (row := row) (ws := []) h rfl k (Nat.zero_le _) hk
    obtain ⟨g3, g4⟩ := meet_is h q g1 g2
    refine ⟨q, List.mem_filter.mpr ⟨g1, ?_⟩, rfl⟩
    unfold jnQ
    rw [hm]
    simp [g2]
    exact (g4 m).mpr ⟨(mateOf_lt hm).1, hc⟩
/-! ### what the program says of two persons -/
def kindM (row : List Int) (ms : List Nat) (k m : Nat) : Str := if ms.idxOf m < loS row ms k then "never" else if hiS row ms k ≤ ms.idxOf m then "always" else "sometimes"
end LawP
set_option Elab.async false
set_option linter.all false
set_option maxRecDepth 100000
set_option maxHeartbeats 4000000
namespace LawP
open PySem PySem.Spec PyProof.Rows L2 VL
/-- what is said of any two -/
def kindG (row : List Int) (ms : List Nat) (k m : Nat) : Str := if k ≤ m then "never" else kindM row ms k m
end LawP
set_option Elab.async false
set_option linter.all false
set_option maxRecDepth 100000
set_option maxHeartbeats 4000000
namespace LawP
open PySem PySem.Spec PyProof.Rows L2 VL
@[simp] def S_Limits_meeting : SV := fun ds Q _ => ∃ (row : List Int) (ms : List Nat) (a : Addr) (k m : Nat), ds = [.obj a "Limits" (limF row ms), .py (pN k), .py (pN m)] ∧ ms.Perm (List.range row.length) ∧ m < row.length ∧ k < row.length ∧ Q (.py (.str (kindG row ms k m)))
theorem l_Limits_meeting : ∀ ds Q E, S_Limits_meeting ds Q E → t_Limits_meeting (envOf 3 ds) (fin Q E) := by
  rintro ds Q E ⟨row, ms, a, k, m, rfl, hp, hm, hk, q⟩
  have lm := perm_len hp
  have g1 := glo (ms := ms) hk
  have g2 := ghi (ms := ms) hk
  have g3 := atI_nat (lplaces_at (ms := ms) (k := m) (by omega))
  simp [t_Limits_meeting, pN]
  unfold kindG kindM at q
  by_cases c0 : k ≤ m
  · rw [if_pos (by omega)]
    rw [if_pos c0] at q
    exact q
  · rw [if_neg (by omega)]
    rw [if_neg c0] at q
    refine ⟨PyData.list ((csLo row ms).map pN), rfl, _, g1, PyData.list ((placesL ms).map pN), rfl, _, g3, ?_⟩
    simp [pN]
    by_cases c1 : ms.idxOf m < loS row ms k
    · rw [if_pos c1] at q ⊢
      exact q
    · rw [if_neg c1] at q ⊢
      refine ⟨PyData.list ((csHi row ms).map pN), rfl, _, g2, PyData.list ((placesL ms).map pN), rfl, _, g3, ?_⟩
      simp [pN]
      by_cases c2 : hiS row ms k ≤ ms.idxOf m
      · rw [if_pos c2] at q ⊢
        exact q
      · rw [if_neg c2] at q ⊢
        exact q
theorem limF_no {row : List Int} {ms : List Nat} {m : Str} (hm : m ∉ (["places", "mates", "lows", "highs"] : List Str)) : ∀ (x : Str) (y : PyData), (x, y) ∈ limF row ms → ¬ m = x := fun x y h e => by
  simp only [limF, List.mem_cons, Prod.mk.injEq, List.not_mem_nil, or_false] at h
  subst e
  rcases h with ⟨rfl, _⟩ | ⟨rfl, _⟩ | ⟨rfl, _⟩ | ⟨rfl, _⟩ <;> simp at hm
def metL (row : List Int) (ms : List Nat) (k : Nat) (wd : Str) : List Nat := (List.range k).filter fun m => decide (kindG row ms k m = wd)
@[simp] def S_Limits_met : SV := fun ds Q _ => ∃ (row : List Int) (ms : List Nat) (a : Addr) (k : Nat) (wd : Str), ds = [.obj a "Limits" (limF row ms), .py (pN k), .py (.str wd)] ∧ ms.Perm (List.range row.length) ∧ k < row.length ∧ row.length ≤ 40 ∧ Q (.py (.tuple ((metL row ms k wd).map pN)))
theorem l_Limits_met : ∀ ds Q E, S_Limits_met ds Q E → t_Limits_met S_Limits_meeting (envOf 4 ds) (fin Q E) := by
  rintro ds Q E ⟨row, ms, a, k, wd, rfl, hp, hk, hl, q⟩
  simp [t_Limits_met, -S_Limits_meeting, -lcGo, pN]
  refine ⟨by omega, ?_⟩
  rw [rangeP_eq]
  refine lc_encF (encR 0) (fun m => decide (kindG row ms k m = wd)) pN (fun i m hx kk k1 k2 => ?_) (by simp; omega) ?_
  · obtain ⟨rfl, hm⟩ := range_get hx
    have hm : m < k := by simpa using hm
    simp [lcStep, encR, -S_Limits_meeting]
    refine ⟨a, _, ⟨rfl, rfl⟩, limF_no (by decide +kernel), ?_⟩
    refine ⟨row, ms, a, k, m, rfl, hp, by omega, hk, ?_⟩
    have es : (PyData.str (kindG row ms k m)).eqv (.str wd) = decide (kindG row ms k m = wd) := by simp [PyData.eqv, BEq.beq]
    refine ⟨rfl, rfl, .inl (Nat.zero_le _), ?_⟩
    rw [es]
    cases hb : decide (kindG row ms k m = wd) with
    | true => exact k1 hb
    | false => exact k2 hb
  · simpa [metL] using q
/-- what is answered: one other, or all -/
def perG (row : List Int) (p : PyData) (xs : List PyData) (E : Er → Prop) : Prop := (ordB row.length p = false → E ⟨"NoOrder", []⟩) ∧ (ordB row.length p = true → ∀ x, xs.find? (badP row) = some x → E ⟨"NoPerson", [("value", x)]⟩)
@[simp] def S_met_by : SV := fun ds Q E => ∃ (row : List Int) (p x : PyData), ds = [.py (tI row), .py p, .py x] ∧ 0 < row.length ∧ row.length ≤ 40 ∧ longU p ∧ perG row p [x] E ∧ ∀ ms k, p = tN ms → ms.Perm (List.range row.length) → x = pN k → k < row.length → (¬ Poss row ms → E ⟨"Impossible", []⟩) ∧ (Poss row ms → Q (.py (.tuple [.tuple ((metL row ms k "always").map pN), .tuple ((metL row ms k "sometimes").map pN)])))
theorem l_met_by : ∀ ds Q E, S_met_by ds Q E → t_met_by S_check_persons S_Limits_init S_Limits_met (envOf 4 ds) (fin Q E) := by
  rintro ds Q E ⟨row, p, x, rfl, h0, hl, hp, ⟨q1, q2⟩, q3⟩
  simp [t_met_by, -S_check_persons, -S_Limits_init, -S_Limits_met]
  refine ⟨row, p, [x], rfl, h0, hl, hp, q1, fun ho => ⟨q2 ho, fun hn => ?_⟩⟩
  obtain ⟨ms, em, pm⟩ := ordB_iff.mp ho
  subst em
  have hb : badP row x = false := by
    have := List.find?_eq_none.mp hn x List.mem_cons_self
    simpa using this
  obtain ⟨k, rfl, hk⟩ := isInt_nat (n := row.length) (x := x) (by simpa [badP] using hb)
  obtain ⟨q5, q6⟩ := q3 ms k rfl pm rfl hk
  refine ⟨row, tN ms, rfl, h0, hl, hp, q1, fun ms' em pm' => ?_⟩
  obtain rfl := tN_inj.mp em
  refine ⟨fun po => ?_, q5⟩
  have q := q6 po
  refine fun a => ⟨a, _, ⟨rfl, rfl⟩, limF_no (by decide +kernel), ?_⟩
  refine ⟨row, ms, a, k, "always", rfl, pm, hk, hl, ?_⟩
  refine ⟨a, _, ⟨rfl, rfl⟩, limF_no (by decide +kernel), ?_⟩
  refine ⟨row, ms, a, k, "sometimes", rfl, pm, hk, hl, ?_⟩
  exact ⟨(by show 2 ≤ 16777216; decide), q⟩
@[simp] def S_meets : SV := fun ds Q E => ∃ (row : List Int) (p x y : PyData), ds = [.py (tI row), .py p, .py x, .py y] ∧ 0 < row.length ∧ row.length ≤ 40 ∧ longU p ∧ perG row p [x, y] E ∧ ∀ ms k m, p = tN ms → ms.Perm (List.range row.length) → x = pN k → y = pN m → k < row.length → m < row.length → (¬ Poss row ms → E ⟨"Impossible", []⟩) ∧ (Poss row ms → Q (.py (.str (kindG row ms k m))))
theorem l_meets : ∀ ds Q E, S_meets ds Q E → t_meets S_check_persons S_Limits_meeting S_Limits_init (envOf 4 ds) (fin Q E) := by
  rintro ds Q E ⟨row, p, x, y, rfl, h0, hl, hp, ⟨q1, q2⟩, q3⟩
  simp [t_meets, -S_check_persons, -S_Limits_init, -S_Limits_meeting]
  refine ⟨row, p, [x, y], rfl, h0, hl, hp, q1, fun ho => ⟨q2 ho, fun hn => ?_⟩⟩
  obtain ⟨ms, em, pm⟩ := ordB_iff.mp ho
  subst em
  have hb : badP row x = false := by
    have := List.find?_eq_none.mp hn x (by simp)
    simpa using this
  have hc : badP row y = false := by
    have := List.find?_eq_none.mp hn y (by simp)
    simpa using this
  obtain ⟨k, rfl, hk⟩ := isInt_nat (n := row.length) (x := x) (by simpa [badP] using hb)
  obtain ⟨m, rfl, hm⟩ := isInt_nat (n := row.length) (x := y) (by simpa [badP] using hc)
  obtain ⟨q5, q6⟩ := q3 ms k m rfl pm rfl rfl hk hm
  refine ⟨row, tN ms, rfl, h0, hl, hp, q1, fun ms' em pm' => ?_⟩
  obtain rfl := tN_inj.mp em
  refine ⟨fun po => ?_, q5⟩
  refine fun a => ⟨a, _, ⟨rfl, rfl⟩, limF_no (by decide +kernel), ?_⟩
  exact ⟨row, ms, a, k, m, rfl, pm, hm, hk, q6 po⟩
end LawP
set_option Elab.async false
set_option linter.all false
set_option maxRecDepth 100000
set_option maxHeartbeats 4000000
namespace LawP
open PySem PySem.Spec PyProof.Rows L2 VL
def t_Limits_joining (S_Limits_meeting : SV) : VS :=
  (sSeq (sSet 2 (vLc [3, 4] (iEn (vCons (vUn (gFld "Limits" "mates") (vBor 0)) vNil)) (tgTup 2 (tgCons (tgName 3) (tgCons (tgName 4) tgNil))) (vTst (vBin (gIsN true) (vBor 4) (vC (.py .none)))) (vTup (vCons (vVar 3) (vCons (vVar 4) vNil)))))
  (sRet (vCal gTuple (vCons (vLc [3, 4] (iS (vBor 2)) (tgTup 2 (tgCons (tgName 3) (tgCons (tgName 4) tgNil))) (vTst (vBin gEq (vMeth "Limits" "meeting" S_Limits_meeting (vVar 0) (vCons (vVar 3) (vCons (vVar 4) vNil))) (vBor 1))) (vVar 3)) vNil))))
def t_joiners (S_Limits_init : SI) (S_Limits_joining : SV) : VS :=
  (sSeq (sSet 2 (vMake "Limits" S_Limits_init (vCons (vVar 0) (vCons (vVar 1) vNil))))
  (sRet (vTup (vCons (vMeth "Limits" "joining" S_Limits_joining (vVar 2) (vCons (vC (.py (.str "always"))) vNil)) (vCons (vMeth "Limits" "joining" S_Limits_joining (vVar 2) (vCons (vC (.py (.str "sometimes"))) vNil)) vNil)))))
end LawP
set_option Elab.async false
set_option linter.all false
set_option maxRecDepth 100000
set_option maxHeartbeats 4000000
namespace LawP
open PySem PySem.Spec PyProof.Rows L2 VL
theorem enum_mates (row : List Int) : enumP ((matesL row).map oN) = (List.range row.length).map fun j => PyData.tuple [pN j, oN (mateOf row j)] := by
  unfold matesL
  rw [List.map_map]
  apply List.ext_getElem?
  intro i
  by_cases hi : i < row.length
  · rw [List.getElem?_map, List.getElem?_range hi]
    have : (enumP ((List.range row.length).map (oN ∘ mateOf row)))[i]? = some (.tuple [.int (i : Nat), (oN ∘ mateOf row) i]) := by
      unfold enumP
      rw [List.getElem?_map, List.getElem?_zipIdx, List.getElem?_map, List.getElem?_range hi]
      simp
    rw [this]; rfl
  · rw [List.getElem?_eq_none (by rw [enumP_len]; simp; omega), List.getElem?_eq_none (by simp; omega)]
def kB (row : List Int) (ms : List Nat) (wd : Str) (k : Nat) : Bool := match mateOf row k with | some m => decide (kindM row ms k m = wd) | none => false
theorem limF_key {row : List Int} {ms : List Nat} {a : Str} {b : PyData} (h : (a, b) ∈ limF row ms) : a ∈ (["places", "mates", "lows", "highs"] : List Str) := by
  simp only [limF, List.mem_cons, Prod.mk.injEq, List.not_mem_nil, or_false] at h
  rcases h with ⟨rfl, _⟩ | ⟨rfl, _⟩ | ⟨rfl, _⟩ | ⟨rfl, _⟩ <;> simp
@[simp] def S_Limits_joining : SV := fun ds Q _ => ∃ (row : List Int) (ms : List Nat) (a : Addr) (wd : Str), ds = [.obj a "Limits" (limF row ms), .py (.str wd)] ∧ ms.Perm (List.range row.length) ∧ row.length ≤ 40 ∧ Q (.py (.tuple (((List.range row.length).filter (kB row ms wd)).map pN)))
theorem l_Limits_joining : ∀ ds Q E, S_Limits_joining ds Q E → t_Limits_joining S_Limits_meeting (envOf 5 ds) (fin Q E) := by
  rintro ds Q E ⟨row, ms, a, wd, rfl, hp, hl, q⟩
  simp [t_Limits_joining, -S_Limits_meeting, -lcGo]
  refine ⟨matesP row, rfl, ?_⟩
  show lcGo _ _ _ _ ((enumP ((matesL row).map oN)).map D.py) [] _
  rw [enum_mates]
  refine lc_encF (fun j => PyData.tuple [pN j, oN (mateOf row j)]) (fun j => (mateOf row j).isSome) (fun j => PyData.tuple [pN j, oN (mateOf row j)]) (fun i j hx k k1 k2 => ?_) (by simp; omega) ?_
  · simp [lcStep]
    cases hm : mateOf row j with
    | none =>
      simp [oN]
      exact k2 (by rw [hm]; rfl)
    | some m =>
      simp [oN]
      have := k1 (by rw [hm]; rfl)
      rw [hm] at this
      simpa [oN] using this
  · have ef : ((List.range row.length).filter fun j => (mateOf row j).isSome).filter (kB row ms wd) = (List.range row.length).filter (kB row ms wd) := by
      rw [List.filter_filter]
      refine List.filter_congr fun j _ => ?_
      unfold kB
      cases mateOf row j <;> simp
    have q' : Q (.py (.tuple ((((List.range row.length).filter fun j => (mateOf row j).isSome).filter (kB row ms wd)).map pN))) := by rw [ef]; exact q
    have mem : ∀ j ∈ (List.range row.length).filter fun j => (mateOf row j).isSome, j < row.length ∧ ∃ m, mateOf row j = some m := fun j hj => by
      obtain ⟨h1, h2⟩ := List.mem_filter.mp hj
      exact ⟨List.mem_range.mp h1, Option.isSome_iff_exists.mp h2⟩
    have ll : ((List.range row.length).filter fun j => (mateOf row j).isSome).length ≤ 40 := Nat.le_trans (List.length_filter_le _ _) (by simp; omega)
    generalize (List.range row.length).filter (fun j => (mateOf row j).isSome) = J at q' mem ll
    simp [-S_Limits_meeting, -lcGo]
    refine lc_encF' (L := J) (fun j => PyData.tuple [pN j, oN (mateOf row j)]) (kB row ms wd) pN (fun i j hx k k1 k2 => ?_) (by omega) ?_
    · obtain ⟨h1, m, hm⟩ := mem j (List.mem_of_getElem? hx)
      simp [lcStep, -S_Limits_meeting]
      refine ⟨a, _, ⟨rfl, rfl⟩, fun x y h e => ?_, ?_⟩
      · have := limF_key h
        rw [← e] at this
        revert this
        decide +kernel
      have lt := (mateOf_lt hm).1
      have kg : kindG row ms j m = kindM row ms j m := by unfold kindG; rw [if_neg (by omega)]
      refine ⟨row, ms, a, j, m, by rw [hm]; rfl, hp, by omega, h1, ?_⟩
      rw [kg]
      have kb : kB row ms wd j = decide (kindM row ms j m = wd) := by unfold kB; rw [hm]
      refine ⟨rfl, rfl, .inl (Nat.zero_le _), ?_⟩
      have es : (PyData.str (kindM row ms j m)).eqv (.str wd) = decide (kindM row ms j m = wd) := by simp [PyData.eqv, BEq.beq]
      rw [es, ← kb]
      cases hb : kB row ms wd j with
      | true => exact k1 hb
      | false => exact k2 hb
    · simpa using q'
def joinP (row : List Int) (ms : List Nat) : PyData := .tuple [.tuple (((List.range row.length).filter (kB row ms "always")).map pN), .tuple (((List.range row.length).filter (kB row ms "sometimes")).map pN)]
@[simp] def S_joiners : SV := fun ds Q E => ∃ (row : List Int) (p : PyData), ds = [.py (tI row), .py p] ∧ 0 < row.length ∧ row.length ≤ 40 ∧ longU p ∧ (ordB row.length p = false → E ⟨"NoOrder", []⟩) ∧ ∀ ms, p = tN ms → ms.Perm (List.range row.length) → (Poss row ms → Q (.py (joinP row ms))) ∧ (¬ Poss row ms → E ⟨"Impossible", []⟩)
theorem l_joiners : ∀ ds Q E, S_joiners ds Q E → t_joiners S_Limits_init S_Limits_joining (envOf 3 ds) (fin Q E) := by
  rintro ds Q E ⟨row, p, rfl, h0, hl, hp, q1, q2⟩
  simp [t_joiners, -S_Limits_init, -S_Limits_joining]
  refine ⟨row, p, rfl, h0, hl, hp, q1, fun ms em pm => ⟨fun po => ?_, fun np => (q2 ms em pm).2 np⟩⟩
  have q := (q2 ms em pm).1 po
  have nk : ∀ (x : Str) (y : PyData), (x, y) ∈ limF row ms → ¬ Str.ofString "joining" = x := fun x y h e => by
    have := limF_key h
    rw [← e] at this
    revert this
    decide +kernel
  refine fun a => ⟨a, _, ⟨rfl, rfl⟩, nk, ?_⟩
  refine ⟨row, ms, a, "always", rfl, pm, hl, ?_⟩
  refine ⟨a, _, ⟨rfl, rfl⟩, nk, ?_⟩
  refine ⟨row, ms, a, "sometimes", rfl, pm, hl, ?_⟩
  exact ⟨(by show 2 ≤ 16777216; decide), q⟩
end LawP
set_option Elab.async false
set_option linter.all false
set_option maxRecDepth 100000
set_option maxHeartbeats 4000000
namespace LawP
open PySem PySem.Spec PyProof.Rows L2 VL
def t_law_met (S_c_play : SV) : VS :=
  (sRet (vLc [2] (iS (vCall S_c_play (vCons (vVar 0) (vCons (vVar 1) vNil)))) (tgName 2) (vTst (vBin gEq (vBin gIx (vBor 2) (vC (.py (.int 0)))) (vC (.py (.str "a"))))) (vCal gTuple (vCons (vCal gSorted (vCons (vBin gIx (vBor 2) (vC (.py (.int 2)))) vNil)) vNil))))
def t_law_right (S_c_order : SV) (S_joiners : SV) (S_c_play : SV) (S_mates : SV) (S_law_met : SV) (S_latest : SV) (S_earliest : SV) (S_law_wind : SV) (S_met_by : SV) (S_waiting_range : SV) (S_meets : SV) : VS :=
  (sSeq (sPar [3, 4] (mCons false (vCall S_c_order (vCons (vVar 1) (vCons (vVar 2) vNil))) (mCons false (vCal gLen (vCons (vBor 1) vNil)) mNil)))
  (sSeq (sAsg (vCall S_joiners (vCons (vVar 1) (vCons (vVar 3) vNil))) (tgTup 2 (tgCons (tgName 5) (tgCons (tgName 6) tgNil))))
  (sSeq (sPar [7, 8] (mCons false (vCall S_mates (vCons (vVar 1) vNil)) (mCons false (vCall S_c_play (vCons (vVar 1) (vCons (vVar 2) vNil))) mNil)))
  (sSeq (sPar [9, 10] (mCons false (vCall S_law_met (vCons (vVar 1) (vCons (vCall S_earliest (vCons (vVar 1) (vCons (vVar 3) vNil))) vNil))) (mCons false (vCall S_law_met (vCons (vVar 1) (vCons (vCall S_latest (vCons (vVar 1) (vCons (vVar 3) vNil))) vNil))) mNil)))
  (sSeq (sFor (iS (vStp (vLstRg (vBor 4)) (oAt (vCall S_law_wind (vCons (vVar 0) (vCons (vBin gAdd (vC (.py (.int 1))) (vBin gFdiv (vBor 4) (vC (.py (.int 10))))) vNil)))) (oAt (vBin gAdd (vC (.py (.int 1))) (vBin gFdiv (vBor 4) (vC (.py (.int 10)))))))) (tgName 11)
  (sSeq (sAsg (vCall S_met_by (vCons (vVar 1) (vCons (vVar 3) (vCons (vVar 11) vNil)))) (tgTup 2 (tgCons (tgName 12) (tgCons (tgName 13) tgNil))))
  (sSeq (sIf (vTst (vBin gNe (vCall S_waiting_range (vCons (vVar 1) (vCons (vVar 3) (vCons (vVar 11) vNil)))) (vTup (vCons (vCal gLen (vCons (vBor 12) vNil)) (vCons (vBin gAdd (vCal gLen (vCons (vBor 12) vNil)) (vCal gLen (vCons (vBor 13) vNil))) vNil)))))
  (sRet (vC (.py (.bool false))))
  sNext)
  (sSeq (sSet 14 (vCal gTuple (vCons (vLc [15] (iS (vBin gIx (vBor 10) (vBor 11))) (tgName 15) (vTst (vBin (gIn true) (vBor 15) (vBin gIx (vBor 9) (vBor 11)))) (vVar 15)) vNil)))
  (sSeq (sIf (wOr (vTst (vBin gNe (vBor 12) (vBin gIx (vBor 9) (vBor 11)))) (vTst (vBin gNe (vBor 13) (vBor 14))))
  (sRet (vC (.py (.bool false))))
  sNext)
  (sSeq (sFor (iS (vLst (vCons (vCall S_law_wind (vCons (vVar 0) (vCons (vVar 4) vNil))) (vCons (vCal gMax (vCons (vC (.py (.int 0))) (vCons (vBin gSub (vBor 11) (vC (.py (.int 1)))) vNil))) (vCons (vVar 11) vNil))))) (tgName 15)
  (sSeq (sSet 16 (vBin gIx (vLst (vCons (vC (.py (.str "never"))) (vCons (vC (.py (.str "always"))) (vCons (vC (.py (.str "sometimes"))) vNil)))) (vBin gAdd (vCal gInt (vCons (vBin (gIn false) (vBor 15) (vBor 12)) vNil)) (vBin gMulA (vC (.py (.int 2))) (vCal gInt (vCons (vBin (gIn false) (vBor 15) (vBor 13)) vNil))))))
  (sIf (vTst (vBin gNe (vCall S_meets (vCons (vVar 1) (vCons (vVar 3) (vCons (vVar 11) (vCons (vVar 15) vNil))))) (vBor 16)))
  (sRet (vC (.py (.bool false))))
  sNext)))
  (sSeq (sSet 17 (vBin gIx (vBor 7) (vBor 11)))
  (sSeq (sIf (vTst (vBin gNe (vBin (gIn false) (vBor 11) (vBor 5)) (vAnd (vBin (gIsN true) (vBor 17) (vC (.py .none))) (vBin (gIn false) (vBor 17) (vBor 12)))))
  (sRet (vC (.py (.bool false))))
  sNext)
  (sIf (vTst (vBin gNe (vBin (gIn false) (vBor 11) (vBor 6)) (vAnd (vBin (gIsN true) (vBor 17) (vC (.py .none))) (vBin (gIn false) (vBor 17) (vBor 13)))))
  (sRet (vC (.py (.bool false))))
  sNext)))))))))
  (sSeq (sSet 18 (vLc [19] (iS (vBor 8)) (tgName 19) (wAnd (vTst (vBin gEq (vBin gIx (vBor 19) (vC (.py (.int 0)))) (vC (.py (.str "a"))))) (vTst (vBin (gIn false) (vBin gIx (vBor 7) (vBin gIx (vBor 19) (vC (.py (.int 1))))) (vBin gIx (vBor 19) (vC (.py (.int 2))))))) (vBin gIx (vBor 19) (vC (.py (.int 1))))))
  (sSeq (sIf (vTst (vBin gNe (vLc [11] (iS (vBor 5)) (tgName 11) (vTst (vBin (gIn true) (vBor 11) (vBor 18))) (vVar 11)) (vLst vNil)))
  (sRet (vC (.py (.bool false))))
  sNext)
  (sRet (vBin gEq (vLc [11] (iS (vBor 18)) (tgName 11) (vTst (vBin (gIn true) (vBor 11) (vBin gAdd (vBor 5) (vBor 6)))) (vVar 11)) (vLst vNil))))))))))
def t_law (S_c_row : SV) (S_law_right : SV) (S_c_word : SV) : VS :=
  (sSeq (sFor (iS (vLst (vCons (vC (.py (.int 40))) (vCons (vC (.py (.int 15))) (vCons (vC (.py (.int 6))) vNil))))) (tgName 2)
  (sSeq (sSet 3 (vCall S_c_row (vCons (vVar 1) (vCons (vVar 2) vNil))))
  (sIf (wNot (vTst (vCall S_law_right (vCons (vVar 1) (vCons (vVar 3) (vCons (vCall S_c_word (vCons (vVar 1) (vCons (vVar 3) (vCons (vC (.py (.bool true))) vNil)))) vNil))))))
  (sRet (vC (.py (.bool false))))
  sNext)))
  (sRet (vC (.py (.bool true)))))
end LawP
set_option Elab.async false
set_option linter.all false
set_option maxRecDepth 100000
set_option maxHeartbeats 4000000
namespace LawP
open PySem PySem.Spec PyProof.Rows L2 VL
structure Of (row : List Int) (ms w : List Nat) : Prop where
  h : HistW row.length w
  o : ordL row w = ms
theorem Of.pm {row : List Int} {ms w : List Nat} (h : Of row ms w) : ms.Perm (List.range row.length) := by rw [← h.o]; exact ordL_perm h.h
theorem Of.po {row : List Int} {ms w : List Nat} (h : Of row ms w) : Poss row ms := by rw [← h.o]; exact hist_poss h.h
theorem Of.btw {row : List Int} {ms w : List Nat} (h : Of row ms w) {k : Nat} (hk : k < row.length) : loS row ms k ≤ fnOf (cntsL 0 w) k ∧ fnOf (cntsL 0 w) k ≤ hiS row ms k :=
  ((ord_iff h.pm h.h).mp h.o).between (cnt_up h.h.cnt) hk
theorem lu_tN {row : List Int} {ms : List Nat} (pm : ms.Perm (List.range row.length)) (hl : row.length ≤ 40) : longU (tN ms) := fun ys e => by
  have := perm_len pm
  injection e with e
  rw [← e]; simp; omega
theorem no_ord {row : List Int} {ms : List Nat} (pm : ms.Perm (List.range row.length)) {p : Prop} (h : ordB row.length (tN ms) = false) : p := absurd h (by rw [ordB_tN pm]; simp)
theorem pN_good {row : List Int} {k : Nat} (hk : k < row.length) : ¬ badP row (pN k) = true := by
  simp [badP, isInt, pN]
  omega
theorem sWr {row : List Int} {ms : List Nat} {k : Nat} {Q : D → Prop} {E : Er → Prop} (h0 : 0 < row.length) (hl : row.length ≤ 40) (pm : ms.Perm (List.range row.length)) (po : Poss row ms) (hk : k < row.length) (q : Q (.py (numP row ms k false))) : S_waiting_range [.py (tI row), .py (tN ms), .py (pN k)] Q E :=
  ⟨row, tN ms, pN k, rfl, h0, hl, lu_tN pm hl, no_ord pm, fun ms' em _ => by
    obtain rfl := tN_inj.mp em
    refine ⟨fun hb => absurd hb (pN_good hk), fun k' ek _ => ?_⟩
    have : k = k' := by simp [pN] at ek; omega
    subst this
    exact ⟨fun h => absurd po h, fun _ => q⟩⟩
theorem sEa {row : List Int} {ms : List Nat} {Q : D → Prop} {E : Er → Prop} (h0 : row ≠ []) (hl : row.length ≤ 40) (pm : ms.Perm (List.range row.length)) (po : Poss row ms) (q : Q (.py (.str (mkS (wordC row.length 0 (csHi row ms)))))) : S_earliest [.py (tI row), .py (tN ms)] Q E :=
  ⟨row, tN ms, rfl, h0, hl, fun ms' em _ => by
    obtain rfl := tN_inj.mp em
    rw [possB_iff.mpr po, if_pos rfl]
    exact q, no_ord pm⟩
theorem sLa {row : List Int} {ms : List Nat} {Q : D → Prop} {E : Er → Prop} (h0 : row ≠ []) (hl : row.length ≤ 40) (pm : ms.Perm (List.range row.length)) (po : Poss row ms) (q : Q (.py (.str (mkS (wordC row.length 0 (csLo row ms)))))) : S_latest [.py (tI row), .py (tN ms)] Q E :=
  ⟨row, tN ms, rfl, h0, hl, fun ms' em _ => by
    obtain rfl := tN_inj.mp em
    rw [possB_iff.mpr po, if_pos rfl]
    exact q, no_ord pm⟩
theorem of_hi {row : List Int} {ms : List Nat} (pm : ms.Perm (List.range row.length)) (po : Poss row ms) : Of row ms (wordC row.length 0 (csHi row ms)) ∧ cntsL 0 (wordC row.length 0 (csHi row ms)) = csHi row ms :=
  ⟨⟨(ord_word pm (csHi_ok pm) (csHi_fits po)).1, (ord_word pm (csHi_ok pm) (csHi_fits po)).2⟩, (csHi_ok pm).cnts⟩
theorem of_lo {row : List Int} {ms : List Nat} (pm : ms.Perm (List.range row.length)) (po : Poss row ms) : Of row ms (wordC row.length 0 (csLo row ms)) ∧ cntsL 0 (wordC row.length 0 (csLo row ms)) = csLo row ms :=
  ⟨⟨(ord_word pm (csLo_ok pm po) (csLo_fits po)).1, (ord_word pm (csLo_ok pm po) (csLo_fits po)).2⟩, (csLo_ok pm po).cnts⟩
theorem gne_same {a : List Nat} {Q : D → Prop} (q : Q (.py (.bool false))) : gNe (.py (tN a)) (.py (tN a)) Q := by
  cases a with
  | nil => exact q
  | cons x a =>
    refine ⟨?_, ?_, .inl ?_, ?_⟩
    · show PyData.plain (.tuple _) = true
      simp only [PyData.plain]
      exact pn_plain _
    · show PyData.plain (.tuple _) = true
      simp only [PyData.plain]
      exact pn_plain _
    · show PyData.depthAll _ + 1 ≤ 60
      rw [pn_depth]; omega
    · show Q (.py (.bool (!PyData.eqvAll ((x :: a).map pN) ((x :: a).map pN))))
      rw [eqv_pN]
      simpa using q
/-! ### whom a person meets -/
def metS (row : List Int) (w : List Nat) (k : Nat) : List Nat := (List.range k).filter fun m => decide (fnOf (cntsL 0 w) k ≤ (ordL row w).idxOf m)
theorem play_wait {row : List Int} {n : Nat} : ∀ {w : List Nat} {a s : Nat} {ws : List Nat}, goodW n a s w → ws.length + s = a → ws.Nodup → (∀ x ∈ ws, x < a) →
    ∀ q ∈ playL row a ws w, q.1 = 97 → a ≤ q.2.1 ∧ q.2.2.1.Nodup ∧ q.2.2.1.length + (cntsL s w).getD (q.2.1 - a) 0 = q.2.1
  | [], a, s, ws, h, e, hn, hl, q, hq, h97 => by simp [playL] at hq
  | c :: w, a, s, ws, h, e, hn, hl, q, hq, h97 => by
    rcases h with ⟨rfl, h1, h⟩ | ⟨rfl, h1, h⟩
    · rw [playL_a] at hq
      rcases List.mem_cons.mp hq with rfl | hq
      · refine ⟨Nat.le_refl _, hn, ?_⟩
        show ws.length + (cntsL s (97 :: w)).getD (a - a) 0 = a
        rw [cntsL_a, Nat.sub_self, List.getD_cons_zero]
        exact e
      · have na : a ∉ ws := fun h => by have := hl a h; omega
        have ih := play_wait (row := row) (ws := joinQ ws a (mateOf row a)) h (by rw [joinQ_len]; omega) ((joinQ_perm ws a (mateOf row a)).symm.nodup (List.nodup_cons.mpr ⟨na, hn⟩)) (fun x hx => by
          rcases mem_joinQ.mp hx with rfl | hx
          · omega
          · have := hl x hx; omega) q hq h97
        obtain ⟨d, hd⟩ : ∃ d, q.2.1 - a = d + 1 := ⟨q.2.1 - a - 1, by omega⟩
        rw [show q.2.1 - (a + 1) = d by omega] at ih
        rw [cntsL_a, hd, List.getD_cons_succ]
        exact ⟨by omega, ih.2⟩
    · cases ws with
      | nil => simp at e; omega
      | cons x ws =>
        rw [playL_s] at hq
        rcases List.mem_cons.mp hq with rfl | hq
        · simp at h97
        · have hn' := List.nodup_cons.mp hn
          have ih := play_wait (row := row) (ws := ws) h (by simp at e; omega) hn'.2 (fun y hy => hl y (List.mem_cons_of_mem _ hy)) q hq h97
          rw [cntsL_s]
          exact ih
theorem arr_list {row : List Int} {n : Nat} : ∀ {w : List Nat} {a s : Nat} {ws : List Nat}, goodW n a s w → ws.length + s = a → a ≤ n → ((playL row a ws w).filter fun q => q.1 == 97).map (fun q => q.2.1) = List.range' a (n - a)
  | [], a, s, ws, h, e, ha => by
    obtain ⟨h3, _⟩ := h
    subst h3
    simp [playL]
  | c :: w, a, s, ws, h, e, ha => by
    rcases h with ⟨rfl, h3, h⟩ | ⟨rfl, h3, h⟩
    · rw [playL_a, List.filter_cons_of_pos (by rfl), List.map_cons, arr_list (row := row) (ws := joinQ ws a (mateOf row a)) h (by rw [joinQ_len]; omega) (by omega)]
      obtain ⟨d, hd⟩ : ∃ d, n - a = d + 1 := ⟨n - a - 1, by omega⟩
      rw [hd, List.range'_succ, show n - (a + 1) = d by omega]
    · cases ws with
      | nil => simp at e; omega
      | cons x ws =>
        rw [playL_s, List.filter_cons_of_neg (by simp)]
        exact arr_list (row := row) (ws := ws) h (by simp at e; omega) ha
theorem filt_sorted (k : Nat) (p : Nat → Bool) : (((List.range k).filter p).map fun (m : Nat) => (m : Int)).Pairwise (· ≤ ·) := by
  rw [List.pairwise_map]
  have := List.Pairwise.filter p (List.pairwise_lt_range (n := k))
  exact this.imp fun h => by omega
/-- the waiting persons at an arrival, in ascending order -/
theorem met_sort {row : List Int} {w : List Nat} (h : HistW row.length w) {q : Nat × Nat × List Nat × List Nat} (hq : q ∈ playL row 0 [] w) (h97 : q.1 = 97) : q.2.2.1.Perm (metS row w q.2.1) ∧ sortI (q.2.2.1.map fun (m : Nat) => (m : Int)) = (metS row w q.2.1).map fun (m : Nat) => (m : Int) := by
  obtain ⟨g1, g2⟩ := meet_is h q hq h97
  obtain ⟨_, nd, _⟩ := play_wait (row := row) (ws := []) h rfl .nil (by simp) q hq h97
  have pm : q.2.2.1.Perm (metS row w q.2.1) := by
    refine (List.perm_ext_iff_of_nodup nd (List.nodup_range.filter _)).mpr fun b => ?_
    rw [g2 b]
    rw [List.mem_filter, List.mem_range]
    simp
  exact ⟨pm, (sortI_eq (pm.symm.map _) (filt_sorted _ _)).symm⟩
theorem met_len {row : List Int} {w : List Nat} (h : HistW row.length w) {k : Nat} (hk : k < row.length) : (metS row w k).length + fnOf (cntsL 0 w) k = k := by
  obtain ⟨q, g1, g2, rfl⟩ := arr_all (row := row) (ws := []) h rfl k (Nat.zero_le _) hk
  obtain ⟨_, _, e⟩ := play_wait (row := row) (ws := []) h rfl .nil (by simp) q g1 g2
  rw [← (met_sort h g1 g2).1.length_eq]
  exact e
@[simp] def S_law_met : SV := fun ds Q _ => ∃ (row : List Int) (w : List Nat), ds = [.py (tI row), .py (.str (mkS w))] ∧ row.length ≤ 40 ∧ HistW row.length w ∧ Q (.py (.list ((List.range row.length).map fun k => tN (metS row w k))))
theorem l_law_met : ∀ ds Q E, S_law_met ds Q E → t_law_met S_c_play (envOf 3 ds) (fin Q E) := by
  rintro ds Q E ⟨row, w, rfl, hl, hw, q⟩
  have wl := hw.len
  have hok := (hist_okP.mp hw).1
  simp [t_law_met, -S_c_play, -lcGo]
  refine ⟨row, w, rfl, by omega, by omega, hok, ?_⟩
  have al := arr_list (row := row) (ws := []) hw rfl (Nat.zero_le _)
  rw [Nat.sub_zero, ← List.range_eq_range'] at al
  have q' : Q (.py (.list (((playL row 0 [] w).filter fun q => q.1 == 97).map fun q => tN (metS row w q.2.1)))) := by
    have e : ((playL row 0 [] w).filter fun q => q.1 == 97).map (fun q => tN (metS row w q.2.1)) = (((playL row 0 [] w).filter fun q => q.1 == 97).map fun q => q.2.1).map fun k => tN (metS row w k) := by rw [List.map_map]; rfl
    rw [e, al]
    exact q
  have pl := playL_drop row w 0 []
  have ms := fun q hq h => (met_sort hw (q := q) hq h).2
  generalize playL row 0 [] w = R at q' pl ms ⊢
  simp [-lcGo]
  refine lc_encF' (L := R) playP (fun q => q.1 == 97) (fun q => tN (metS row w q.2.1)) (fun i x hx k k1 k2 => ?_) (by omega) q'
  have hs := ms x (List.mem_of_getElem? hx)
  obtain ⟨c, p, ws, vs⟩ := x
  simp [lcStep, playP]
  by_cases e : c = 97
  · subst e
    have hs := hs rfl
    simp at hs ⊢
    refine ⟨_, allI_pN ws, ?_⟩
    rw [hs, List.map_map]
    exact k1 rfl
  · simp [e]
    exact k2 (by simp [e])
/-! ### always and sometimes are the earliest's and the latest's meetings -/
theorem kind_alw {row : List Int} {ms : List Nat} {k m : Nat} (po : Poss row ms) (hk : k < row.length) (hm : m < k) : kindG row ms k m = "always" ↔ hiS row ms k ≤ ms.idxOf m := by
  have st := po.stairs hk
  unfold kindG kindM
  rw [if_neg (by omega)]
  by_cases c1 : ms.idxOf m < loS row ms k
  · rw [if_pos c1]
    constructor
    · intro h; exact absurd h (by decide +kernel)
    · intro h; omega
  · rw [if_neg c1]
    by_cases c2 : hiS row ms k ≤ ms.idxOf m
    · rw [if_pos c2]; exact ⟨fun _ => c2, fun _ => rfl⟩
    · rw [if_neg c2]; exact ⟨fun h => absurd h (by decide +kernel), fun h => absurd h c2⟩
theorem kind_som {row : List Int} {ms : List Nat} {k m : Nat} (hm : m < k) : kindG row ms k m = "sometimes" ↔ loS row ms k ≤ ms.idxOf m ∧ ¬ hiS row ms k ≤ ms.idxOf m := by
  unfold kindG kindM
  rw [if_neg (by omega)]
  by_cases c1 : ms.idxOf m < loS row ms k
  · rw [if_pos c1]
    constructor
    · intro h; exact absurd h (by decide +kernel)
    · intro h; omega
  · rw [if_neg c1]
    by_cases c2 : hiS row ms k ≤ ms.idxOf m
    · rw [if_pos c2]; exact ⟨fun h => absurd h (by decide +kernel), fun h => absurd c2 h.2⟩
    · rw [if_neg c2]; exact ⟨fun _ => ⟨by omega, c2⟩, fun _ => rfl⟩
theorem met_alw {row : List Int} {ms wh : List Nat} {k : Nat} (oh : Of row ms wh) (ch : cntsL 0 wh = csHi row ms) (hk : k < row.length) : metL row ms k "always" = metS row wh k := by
  unfold metL metS
  rw [oh.o, ch, csHi, fnOf_map _ hk]
  refine List.filter_congr fun m hm => ?_
  rw [Bool.eq_iff_iff, decide_eq_true_iff, decide_eq_true_iff]
  exact kind_alw oh.po hk (List.mem_range.mp hm)
theorem met_som {row : List Int} {ms wh wl : List Nat} {k : Nat} (oh : Of row ms wh) (ch : cntsL 0 wh = csHi row ms) (ol : Of row ms wl) (cl : cntsL 0 wl = csLo row ms) (hk : k < row.length) :
    metL row ms k "sometimes" = (metS row wl k).filter fun m => !decide (m ∈ metS row wh k) := by
  unfold metL metS
  rw [oh.o, ch, csHi, fnOf_map _ hk, ol.o, cl, csLo, fnOf_map _ hk, List.filter_filter]
  refine List.filter_congr fun m hm => ?_
  have hm := List.mem_range.mp hm
  rw [Bool.eq_iff_iff, decide_eq_true_iff, Bool.and_eq_true, decide_eq_true_iff]
  rw [kind_som hm]
  simp [hm]
  omega
theorem metL_lt {row : List Int} {ms : List Nat} {k : Nat} {wd : Str} {m : Nat} : m ∈ metL row ms k wd ↔ m < k ∧ kindG row ms k m = wd := by
  unfold metL
  rw [List.mem_filter, List.mem_range]
  simp
theorem som_len {row : List Int} {ms wh wl : List Nat} {k : Nat} (oh : Of row ms wh) (ch : cntsL 0 wh = csHi row ms) (ol : Of row ms wl) (cl : cntsL 0 wl = csLo row ms) (hk : k < row.length) :
    (metL row ms k "always").length = k - hiS row ms k ∧ (metL row ms k "always").length + (metL row ms k "sometimes").length = k - loS row ms k := by
  have e1 := met_len oh.h hk
  have e2 := met_len ol.h hk
  rw [ch, csHi, fnOf_map _ hk] at e1
  rw [cl, csLo, fnOf_map _ hk] at e2
  have sub : (metS row wh k) = (metS row wl k).filter fun m => decide (m ∈ metS row wh k) := by
    have st := oh.po.stairs hk
    unfold metS
    rw [oh.o, ch, csHi, fnOf_map _ hk, ol.o, cl, csLo, fnOf_map _ hk, List.filter_filter]
    refine List.filter_congr fun m hm => ?_
    have hm := List.mem_range.mp hm
    rw [Bool.eq_iff_iff, decide_eq_true_iff, Bool.and_eq_true, decide_eq_true_iff]
    simp [hm]
    omega
  rw [met_alw oh ch hk, met_som oh ch ol cl hk]
  have l := List.length_eq_countP_add_countP (fun m => decide (m ∈ metS row wh k)) (l := metS row wl k)
  rw [List.countP_eq_length_filter, List.countP_eq_length_filter, ← sub] at l
  have e3 : (metS row wl k).filter (fun a => decide ¬(decide (a ∈ metS row wh k) = true)) = (metS row wl k).filter fun m => !decide (m ∈ metS row wh k) := List.filter_congr fun m _ => by simp
  rw [e3] at l
  omega
theorem sJo {row : List Int} {ms : List Nat} {Q : D → Prop} {E : Er → Prop} (h0 : 0 < row.length) (hl : row.length ≤ 40) (pm : ms.Perm (List.range row.length)) (po : Poss row ms) (q : Q (.py (joinP row ms))) : S_joiners [.py (tI row), .py (tN ms)] Q E :=
  ⟨row, tN ms, rfl, h0, hl, lu_tN pm hl, no_ord pm, fun ms' em _ => by
    obtain rfl := tN_inj.mp em
    exact ⟨fun _ => q, fun h => absurd po h⟩⟩
theorem find_no {row : List Int} {xs : List Nat} (h : ∀ x ∈ xs, x < row.length) : (xs.map pN).find? (badP row) = none := by
  rw [List.find?_eq_none]
  intro x hx
  obtain ⟨k, hk, rfl⟩ := List.mem_map.mp hx
  exact pN_good (h k hk)
theorem sMb {row : List Int} {ms : List Nat} {k : Nat} {Q : D → Prop} {E : Er → Prop} (h0 : 0 < row.length) (hl : row.length ≤ 40) (pm : ms.Perm (List.range row.length)) (po : Poss row ms) (hk : k < row.length)
    (q : Q (.py (.tuple [.tuple ((metL row ms k "always").map pN), .tuple ((metL row ms k "sometimes").map pN)]))) : S_met_by [.py (tI row), .py (tN ms), .py (pN k)] Q E :=
  ⟨row, tN ms, pN k, rfl, h0, hl, lu_tN pm hl, ⟨no_ord pm, fun _ x hx => by
    have e := find_no (row := row) (xs := [k]) (by simpa using hk)
    rw [List.map_cons, List.map_nil] at e
    rw [e] at hx; cases hx⟩, fun ms' k' em _ ek _ => by
    obtain rfl := tN_inj.mp em
    have : k = k' := by simp [pN] at ek; omega
    subst this
    exact ⟨fun h => absurd po h, fun _ => q⟩⟩
theorem sMe {row : List Int} {ms : List Nat} {k m : Nat} {Q : D → Prop} {E : Er → Prop} (h0 : 0 < row.length) (hl : row.length ≤ 40) (pm : ms.Perm (List.range row.length)) (po : Poss row ms) (hk : k < row.length) (hm : m < row.length)
    (q : Q (.py (.str (kindG row ms k m)))) : S_meets [.py (tI row), .py (tN ms), .py (pN k), .py (pN m)] Q E :=
  ⟨row, tN ms, pN k, pN m, rfl, h0, hl, lu_tN pm hl, ⟨no_ord pm, fun _ x hx => by
    have e := find_no (row := row) (xs := [k, m]) (by simp [hk, hm])
    rw [List.map_cons, List.map_cons, List.map_nil] at e
    rw [e] at hx; cases hx⟩, fun ms' k' m' em _ ek emm _ _ => by
    obtain rfl := tN_inj.mp em
    have e1 : k = k' := by simp [pN] at ek; omega
    have e2 : m = m' := by simp [pN] at emm; omega
    subst e1 e2
    exact ⟨fun h => absurd po h, fun _ => q⟩⟩
theorem has_pN (js : List Nat) (k : Nat) : (∃ x, x ∈ js ∧ (pN x).eqv (.int (k : Int)) = true) ↔ k ∈ js := by
  have := pn_ex js (some k)
  simpa [oN, pN] using this
theorem nin_pN (js : List Nat) (k : Nat) : (∀ x, x ∈ js → (pN x).eqv (.int (k : Int)) = false) ↔ k ∉ js := by
  rw [← has_pN js k]
  constructor
  · rintro h ⟨x, h1, h2⟩
    rw [h x h1] at h2; cases h2
  · intro h x hx
    cases hb : (pN x).eqv (.int (k : Int)) with
    | false => rfl
    | true => exact absurd ⟨x, hx, hb⟩ h
theorem kind_lt {row : List Int} {ms : List Nat} {k m : Nat} {wd : Str} (h : kindG row ms k m = wd) (h2 : wd ≠ "never") : m < k := by
  unfold kindG at h
  by_cases c : k ≤ m
  · rw [if_pos c] at h
    exact absurd h.symm h2
  · omega
theorem kind3 (row : List Int) (ms : List Nat) (k m : Nat) : kindG row ms k m = "never" ∨ kindG row ms k m = "always" ∨ kindG row ms k m = "sometimes" := by
  unfold kindG kindM
  split
  · exact .inl rfl
  · split
    · exact .inl rfl
    · split
      · exact .inr (.inl rfl)
      · exact .inr (.inr rfl)
theorem cast_if (js : List Nat) (m : Nat) : (if ∃ x, x ∈ js ∧ ((x : Nat) : Int) = (m : Nat) then (1 : Int) else 0) = if m ∈ js then 1 else 0 := by
  by_cases c : m ∈ js
  · rw [if_pos c, if_pos ⟨m, c, rfl⟩]
  · rw [if_neg c, if_neg]
    rintro ⟨x, h, e⟩
    have : x = m := by omega
    exact c (this ▸ h)
theorem any_kB {row : List Int} {ms : List Nat} {wd : Str} {k n : Nat} (hk : k < n) : ((List.range n).any fun a => kB row ms wd a && ((a : Nat) : Int) == ((k : Nat) : Int)) = kB row ms wd k := by
  rw [Bool.eq_iff_iff, List.any_eq_true]
  constructor
  · rintro ⟨a, h1, h2⟩
    rw [Bool.and_eq_true] at h2
    have : a = k := by have := h2.2; simp at this; omega
    exact this ▸ h2.1
  · intro h
    exact ⟨k, List.mem_range.mpr hk, by simp [h]⟩
theorem any_pN (L : List Nat) (m : Nat) : L.any ((fun y => y.eqv (PyData.int (m : Nat))) ∘ pN) = decide (m ∈ L) := by
  rw [Bool.eq_iff_iff, List.any_eq_true, decide_eq_true_iff, ← has_pN L m]
  rfl
@[simp] def S_law_right (r : Addr) : SV := fun ds Q _ => ∃ (row : List Int) (w : List Nat), ds = [.raw (.ref r), .py (tI row), .py (.str (mkS w))] ∧ 0 < row.length ∧ row.length ≤ 40 ∧ HistW row.length w ∧ Q (.py (.bool true))
theorem l_law_right (r : Addr) : ∀ ds Q E, S_law_right r ds Q E → t_law_right S_c_order S_joiners S_c_play S_mates S_law_met S_latest S_earliest (svTake r) S_met_by S_waiting_range S_meets (envOf 20 ds) (fin Q E) := by
  rintro ds Q E ⟨row, w, rfl, h0, hl, hw, q⟩
  have hne : row ≠ [] := List.length_pos_iff.mp h0
  have wl := hw.len
  have hok := (hist_okP.mp hw).1
  simp [t_law_right, -S_c_order, -S_joiners, -S_c_play, -S_mates, -S_law_met, -S_latest, -S_earliest, -S_met_by, -S_waiting_range, -S_meets, -forGo, -lcGo]
  refine ⟨row, w, rfl, hl, hw, ?_⟩
  have ho : Of row (ordL row w) w := ⟨hw, rfl⟩
  have oe : ordL row w = ordL row w := rfl
  generalize ordL row w = ms at ho oe ⊢
  have pm := ho.pm
  have po := ho.po
  simp [-S_c_order, -S_joiners, -S_c_play, -S_mates, -S_law_met, -S_latest, -S_earliest, -S_met_by, -S_waiting_range, -S_meets, -forGo, -lcGo]
  refine sJo h0 hl pm po ?_
  simp [joinP, -S_c_order, -S_joiners, -S_c_play, -S_mates, -S_law_met, -S_latest, -S_earliest, -S_met_by, -S_waiting_range, -S_meets, -forGo, -lcGo]
  refine ⟨row, rfl, by omega, ?_⟩
  simp [-S_c_order, -S_joiners, -S_c_play, -S_mates, -S_law_met, -S_latest, -S_earliest, -S_met_by, -S_waiting_range, -S_meets, -forGo, -lcGo]
  refine ⟨row, w, rfl, by omega, by omega, hok, ?_⟩
  simp [-S_c_order, -S_joiners, -S_c_play, -S_mates, -S_law_met, -S_latest, -S_earliest, -S_met_by, -S_waiting_range, -S_meets, -forGo, -lcGo]
  obtain ⟨oh, ch⟩ := of_hi pm po
  obtain ⟨ol, cl⟩ := of_lo pm po
  refine sEa hne hl pm po ?_
  refine ⟨row, _, rfl, hl, oh.h, ?_⟩
  refine sLa hne hl pm po ?_
  refine ⟨row, _, rfl, hl, ol.h, ?_⟩
  have f0 : 0 ≤ (row.length : Int).fdiv 10 ∧ (row.length : Int).fdiv 10 ≤ 4 := by rw [Int.fdiv_eq_ediv_of_nonneg _ (by decide)]; omega
  refine ⟨by omega, by omega, by omega, fun x x0 x1 => ⟨by omega, ?_⟩⟩
  have alw := fun k hk => met_alw (k := k) oh ch hk
  have som := fun k hk => met_som (k := k) oh ch ol cl hk
  have sln := fun k hk => som_len (k := k) oh ch ol cl hk
  generalize wordC row.length 0 (csHi row ms) = wh at *
  generalize wordC row.length 0 (csLo row ms) = wlo at *
  have fewA : ∀ k, k < row.length → atI ((List.range row.length).map fun k => tN (metS row wh k)) (k : Int) = some (tN (metS row wh k)) := fun k hk => atI_nat (by rw [List.getElem?_map, List.getElem?_range hk]; rfl)
  have allA : ∀ k, k < row.length → atI ((List.range row.length).map fun k => tN (metS row wlo k)) (k : Int) = some (tN (metS row wlo k)) := fun k hk => atI_nat (by rw [List.getElem?_map, List.getElem?_range hk]; rfl)
  have matA : ∀ k, k < row.length → atI ((matesL row).map oN) (k : Int) = some (oN (mateOf row k)) := fun k hk => atI_nat (by unfold matesL; rw [List.map_map, List.getElem?_map, List.getElem?_range hk]; rfl)
  refine for_inv (xs := stepL (rangeP 0 row.length) x (1 + (row.length : Int).fdiv 10)) (fun _ ρ => ∃ a b c d e f g, ((∀ d, ¬ a = VL.Slot.own d) ∧ ∀ d, ¬ e = VL.Slot.own d) ∧ ρ = [.shr (.raw (.ref r)), .shr (.py (tI row)), .shr (.py (.str (mkS w))), .shr (.py (tN ms)), .shr (.py (.int (row.length : Nat))), .shr (.py (.tuple (((List.range row.length).filter (kB row ms "always")).map pN))), .shr (.py (.tuple (((List.range row.length).filter (kB row ms "sometimes")).map pN))),
    .shr (.py (matesP row)), .shr (.py (.list ((playL row 0 [] w).map playP))), .shr (.py (.list ((List.range row.length).map fun k => tN (metS row wh k)))), .shr (.py (.list ((List.range row.length).map fun k => tN (metS row wlo k)))), a, b, c, d, e, f, g, .un, .un]) (fun i x ρ hi iv nx ct hn => ?_) (fun ρ iv => ?_) ⟨_, _, _, _, _, _, _, ⟨by simp, by simp⟩, rfl⟩
  · obtain ⟨a, b, c, d, e, f, g, ⟨ha, he⟩, rfl⟩ := iv
    have hm := stepL_mem (List.mem_of_getElem? hi)
    rw [rangeP_eq] at hm
    obtain ⟨k, hk, rfl⟩ := List.mem_map.mp hm
    have hk := List.mem_range.mp hk
    have ek : encR 0 k = pN k := by simp [encR, pN]
    rw [ek]
    obtain ⟨s1, s2⟩ := sln k hk
    simp [-S_c_order, -S_joiners, -S_c_play, -S_mates, -S_law_met, -S_latest, -S_earliest, -S_met_by, -S_waiting_range, -S_meets, -forGo, -lcGo]
    refine sMb h0 hl pm po hk ?_
    have aA := alw k hk
    have aS := som k hk
    have lA : ∀ m ∈ metL row ms k "always", m < k := fun m hm => (metL_lt.mp hm).1
    simp [-S_c_order, -S_joiners, -S_c_play, -S_mates, -S_law_met, -S_latest, -S_earliest, -S_met_by, -S_waiting_range, -S_meets, -forGo, -lcGo]
    refine sWr h0 hl pm po hk ?_
    have en : numP row ms k false = .tuple [.int ((metL row ms k "always").length : Nat), .int (((metL row ms k "always").length : Nat) + ((metL row ms k "sometimes").length : Nat) : Int)] := by
      unfold numP
      simp only [Bool.false_eq_true, if_false]
      rw [← s1, ← s2]
      simp [pN]
    rw [en]
    simp [-S_c_order, -S_joiners, -S_c_play, -S_mates, -S_law_met, -S_latest, -S_earliest, -S_met_by, -S_waiting_range, -S_meets, -forGo, -lcGo]
    rw [if_pos (PySem.SeqAt.eqv_refl_plain _ (by simp))]
    refine ⟨he, ?_⟩
    have ix1 := allA k hk
    have ix2 := fewA k hk
    simp [pN, tN, -S_meets, -forGo, -lcGo] at ix1 ix2 ⊢
    refine ⟨_, ix1, ?_⟩
    have lm : (metS row wlo k).length ≤ 40 := by
      have := List.length_filter_le (fun m => decide (fnOf (cntsL 0 wlo) k ≤ (ordL row wlo).idxOf m)) (List.range k)
      unfold metS
      rw [List.length_range] at this
      omega
    simp [-S_meets, -forGo, -lcGo]
    refine lc_encF' pN (fun m => !decide (m ∈ metS row wh k)) pN (fun i m hmm kk k1 k2 => ?_) (by omega) ?_
    · simp [lcStep, pN]
      refine ⟨_, ix2, ?_⟩
      simp
      refine ⟨pn_plain _, ?_⟩
      by_cases c : m ∈ metS row wh k
      · rw [if_neg (fun z => (nin_pN _ _).mp z c)]
        exact k2 (by simp [c])
      · rw [if_pos ((nin_pN _ _).mpr c)]
        exact k1 (by simp [c])
    rw [← aS]
    rw [← aA] at ix2
    simp only [vCal]
    refine ⟨_, ix2, gne_same ?_⟩
    simp only [Bool.false_eq_true, if_false]
    refine gne_same ?_
    simp only [Bool.false_eq_true, if_false]
    refine ⟨h0, by omega, fun z z0 z1 => ?_⟩
    refine for_inv (xs := [PyData.int z, PyData.int (max 0 ((k : Int) - 1)), PyData.int (k : Nat)]) (fun _ ρ => ∃ e f g, ρ = [.shr (.raw (.ref r)), .shr (.py (tI row)), .shr (.py (.str (mkS w))), .shr (.py (tN ms)), .shr (.py (.int (row.length : Nat))), .shr (.py (.tuple (((List.range row.length).filter (kB row ms "always")).map pN))), .shr (.py (.tuple (((List.range row.length).filter (kB row ms "sometimes")).map pN))),
      .shr (.py (matesP row)), .shr (.py (.list ((playL row 0 [] w).map playP))), .shr (.py (.list ((List.range row.length).map fun k => tN (metS row wh k)))), .shr (.py (.list ((List.range row.length).map fun k => tN (metS row wlo k)))), .shr (.py (pN k)), .shr (.py (.tuple ((metL row ms k "always").map pN))), .shr (.py (.tuple ((metL row ms k "sometimes").map pN))), .shr (.py (.tuple ((metL row ms k "sometimes").map pN))), e, f, g, .un, .un] ∧ ∀ d, ¬ e = VL.Slot.own d) (fun i y ρ hi2 iv nx2 ct2 hn2 => ?_) (fun ρ iv => ?_) ⟨_, _, _, rfl, he⟩
    · obtain ⟨e, f, g, rfl, he⟩ := iv
      have hm2 := List.mem_of_getElem? hi2
      obtain ⟨m, rfl, hm⟩ : ∃ m : Nat, y = pN m ∧ m < row.length := by
        simp only [List.mem_cons, List.not_mem_nil, or_false] at hm2
        rcases hm2 with rfl | rfl | rfl
        · exact ⟨z.toNat, by simp [pN]; omega, by omega⟩
        · exact ⟨k - 1, by simp [pN]; omega, by omega⟩
        · exact ⟨k, rfl, hk⟩
      have inA : m ∈ metL row ms k "always" ↔ kindG row ms k m = "always" := by
        rw [metL_lt]
        exact ⟨fun h => h.2, fun h => ⟨kind_lt h (by decide +kernel), h⟩⟩
      have inS : m ∈ metL row ms k "sometimes" ↔ kindG row ms k m = "sometimes" := by
        rw [metL_lt]
        exact ⟨fun h => h.2, fun h => ⟨kind_lt h (by decide +kernel), h⟩⟩
      simp [pN, -S_meets]
      refine ⟨pn_plain _, pn_plain _, ?_⟩
      rw [cast_if, cast_if]
      have n1 : ¬ (("never" : Str) = "always") := by decide +kernel
      have n2 : ¬ (("never" : Str) = "sometimes") := by decide +kernel
      have n3 : ¬ (("always" : Str) = "sometimes") := by decide +kernel
      rcases kind3 row ms k m with h | h | h
      · rw [if_neg (fun z => n1 (h ▸ inA.mp z)), if_neg (fun z => n2 (h ▸ inS.mp z))]
        refine ⟨.str "never", rfl, sMe h0 hl pm po hk hm ?_⟩
        rw [h]
        simp
        exact (hn2 _ ⟨_, _, _, rfl, by simp⟩).1
      · rw [if_pos (inA.mpr h), if_neg (fun z => n3 (h ▸ inS.mp z))]
        refine ⟨.str "always", rfl, sMe h0 hl pm po hk hm ?_⟩
        rw [h]
        simp
        exact (hn2 _ ⟨_, _, _, rfl, by simp⟩).1
      · rw [if_neg (fun z => n3 (h ▸ (inA.mp z)).symm), if_pos (inS.mpr h)]
        refine ⟨.str "sometimes", rfl, sMe h0 hl pm po hk hm ?_⟩
        rw [h]
        simp
        exact (hn2 _ ⟨_, _, _, rfl, by simp⟩).1
    · obtain ⟨e, f, g, rfl, he⟩ := iv
      have mk := matA k hk
      simp [matesP, pN] at mk ⊢
      refine ⟨_, mk, ?_⟩
      refine ⟨pn_plain _, ?_⟩
      have fin2 := (hn ([Slot.shr (D.raw (V.ref r)), .shr (.py (tI row)), .shr (.py (.str (mkS w))), .shr (.py (tN ms)), .shr (.py (.int (row.length : Nat))), .shr (.py (.tuple (((List.range row.length).filter (kB row ms "always")).map pN))), .shr (.py (.tuple (((List.range row.length).filter (kB row ms "sometimes")).map pN))),
        .shr (.py (matesP row)), .shr (.py (.list ((playL row 0 [] w).map playP))), .shr (.py (.list ((List.range row.length).map fun k => tN (metS row wh k)))), .shr (.py (.list ((List.range row.length).map fun k => tN (metS row wlo k)))), .shr (.py (pN k)), .shr (.py (.tuple ((metL row ms k "always").map pN))), .shr (.py (.tuple ((metL row ms k "sometimes").map pN))), .shr (.py (.tuple ((metL row ms k "sometimes").map pN))), e, f, .shr (.py (oN (mateOf row k))), .un, .un]) ⟨_, _, _, _, _, _, _, ⟨by simp, he⟩, rfl⟩).1
      rw [any_kB hk, any_kB hk]
      cases hm : mateOf row k with
      | none =>
        have b1 : ∀ wd, kB row ms wd k = false := fun wd => by unfold kB; rw [hm]
        rw [hm] at fin2
        rw [b1, b1]
        simp [oN, PyData.eqv]
        exact ⟨pn_plain _, fin2⟩
      | some m =>
        have b1 : ∀ wd, wd ≠ "never" → kB row ms wd k = decide (m ∈ metL row ms k wd) := fun wd hw => by
          unfold kB
          rw [hm, Bool.eq_iff_iff, decide_eq_true_iff, decide_eq_true_iff, metL_lt]
          have lt := (mateOf_lt hm).1
          have kg : kindG row ms k m = kindM row ms k m := by unfold kindG; rw [if_neg (by omega)]
          rw [kg]
          exact ⟨fun h => ⟨lt, h⟩, fun h => h.2⟩
        rw [hm] at fin2
        rw [b1 "always" (by decide +kernel), b1 "sometimes" (by decide +kernel)]
        simp [oN]
        simp only [any_pN]
        refine ⟨pn_plain _, ?_⟩
        rw [if_pos (PySem.SeqAt.eqv_refl_plain _ rfl)]
        refine ⟨pn_plain _, pn_plain _, ?_⟩
        rw [if_pos (PySem.SeqAt.eqv_refl_plain _ rfl)]
        exact fin2
  · obtain ⟨a, b, c, d, e, f, g, ⟨ha, he⟩, rfl⟩ := iv
    simp [-forGo, -lcGo]
    have pl := playL_drop row w 0 []
    have jm := fun k => mem_jnL (row := row) hw (k := k)
    have lt : ∀ q ∈ playL row 0 [] w, q.1 = 97 → q.2.1 < row.length := fun q hq h => (meet_is hw q hq h).1
    have ej : jnL row w = ((playL row 0 [] w).filter (jnQ row)).map fun q => q.2.1 := rfl
    generalize playL row 0 [] w = R at pl lt ej ⊢
    refine lc_encF' (L := R) playP (jnQ row) (fun q => pN q.2.1) (fun i x hx k k1 k2 => ?_) (by omega) ?_
    · have hlt := lt x (List.mem_of_getElem? hx)
      obtain ⟨c, p, ws, vs⟩ := x
      simp [lcStep, playP, matesP]
      by_cases e : c = 97
      · subst e
        have hp : p < row.length := hlt rfl
        have gm := matA p hp
        simp [pN]
        refine ⟨_, gm, ?_⟩
        refine ⟨on_plain _, pn_plain ws, .inl (by rw [on_depth]; omega), ?_⟩
        have px := pn_ex ws (mateOf row p)
        by_cases c : jnQ row (97, p, ws, vs) = true
        · have hc : ∃ x, x ∈ ws ∧ (PyData.int ((x : Nat) : Int)).eqv (oN (mateOf row p)) = true := px.mpr (by
            unfold jnQ at c
            cases hm : mateOf row p with
            | none => rw [hm] at c; simp at c
            | some m => rw [hm] at c; exact ⟨m, rfl, by simpa using c⟩)
          rw [if_pos hc]
          exact k1 c
        · have hc : ¬ ∃ x, x ∈ ws ∧ (PyData.int ((x : Nat) : Int)).eqv (oN (mateOf row p)) = true := fun z => c (by
            obtain ⟨m, h1, h2⟩ := px.mp z
            unfold jnQ
            simp only [h1]
            simpa using h2)
          rw [if_neg hc]
          exact k2 (by simpa using c)
      · simp [e]
        exact k2 (by simp [jnQ, e])
    have e2 : (R.filter (jnQ row)).map (fun q => pN q.2.1) = (jnL row w).map pN := by rw [ej, List.map_map]; rfl
    rw [e2]
    have lj : (jnL row w).length ≤ 100 := by
      rw [ej, List.length_map]
      have := List.length_filter_le (jnQ row) R
      omega
    generalize jnL row w = J at jm lj ⊢
    simp [-forGo, -lcGo]
    refine ⟨ha, ?_⟩
    have al : ∀ k, k ∈ (List.range row.length).filter (kB row ms "always") → k ∈ J := fun k hk2 => by
      obtain ⟨h1, h2⟩ := List.mem_filter.mp hk2
      have h1 := List.mem_range.mp h1
      rw [jm, ho.o]
      refine ⟨h1, ?_⟩
      unfold kB at h2
      cases hm : mateOf row k with
      | none => rw [hm] at h2; simp at h2
      | some m =>
        rw [hm] at h2
        have lt := (mateOf_lt hm).1
        have kg : kindG row ms k m = kindM row ms k m := by unfold kindG; rw [if_neg (by omega)]
        have h3 : kindG row ms k m = "always" := by rw [kg]; simpa using h2
        have := (kind_alw po h1 lt).mp h3
        have bt := (ho.btw h1).2
        exact ⟨m, rfl, by omega⟩
    have ja : ∀ k ∈ J, k ∈ (List.range row.length).filter (kB row ms "always") ∨ k ∈ (List.range row.length).filter (kB row ms "sometimes") := fun k hk2 => by
      obtain ⟨h1, m, hm, h2⟩ := (jm k).mp hk2
      rw [ho.o] at h2
      have lt := (mateOf_lt hm).1
      have bt := (ho.btw h1).1
      have kg : kindG row ms k m = kindM row ms k m := by unfold kindG; rw [if_neg (by omega)]
      by_cases c : hiS row ms k ≤ ms.idxOf m
      · have := (kind_alw po h1 lt).mpr c
        refine .inl (List.mem_filter.mpr ⟨List.mem_range.mpr h1, ?_⟩)
        unfold kB
        rw [hm]
        simp [← kg, this]
      · have := (kind_som lt).mpr ⟨by omega, c⟩
        refine .inr (List.mem_filter.mpr ⟨List.mem_range.mpr h1, ?_⟩)
        unfold kB
        rw [hm]
        simp [← kg, this]
    have l1 : ((List.range row.length).filter (kB row ms "always")).length ≤ 40 := Nat.le_trans (List.length_filter_le _ _) (by simp; omega)
    have l2 : ((List.range row.length).filter (kB row ms "sometimes")).length ≤ 40 := Nat.le_trans (List.length_filter_le _ _) (by simp; omega)
    generalize (List.range row.length).filter (kB row ms "always") = A1 at al ja l1 ⊢
    generalize (List.range row.length).filter (kB row ms "sometimes") = A2 at ja l2 ⊢
    refine lc_encF' (L := A1) pN (fun _ => false) pN (fun i k hk2 kk k1 k2 => ?_) (by omega) ?_
    · have := al k (List.mem_of_getElem? hk2)
      simp [lcStep, pN]
      refine ⟨pn_plain _, ?_⟩
      rw [if_neg (fun z => z k this rfl)]
      exact k2 rfl
    rw [List.filter_eq_nil_iff.mpr (by simp)]
    simp [-forGo, -lcGo]
    refine ⟨ha, ?_⟩
    refine lc_encF' (L := J) pN (fun _ => false) pN (fun i k hk2 kk k1 k2 => ?_) (by omega) ?_
    · have := ja k (List.mem_of_getElem? hk2)
      simp [lcStep, pN]
      refine ⟨by omega, by rw [← List.map_append]; exact pn_plain _, ?_⟩
      rw [if_neg (fun z => this.elim (fun h => z.1 k h rfl) fun h => z.2 k h rfl)]
      exact k2 rfl
    rw [List.filter_eq_nil_iff.mpr (by simp)]
    simpa using q
theorem l_law (r : Addr) : t_law (S_c_row r) (S_law_right r) (S_c_word r) (envBag 4 1 r) (fin isTrue' noE) := by
  have e0 : envBag 4 1 r = [.un, .shr (.raw (.ref r)), .un, .un] := rfl
  rw [e0]
  simp [t_law, -S_law_right, -S_c_row, -S_c_word, -forGo]
  refine for_inv (xs := [PyData.int 40, .int 15, .int 6]) (fun _ ρ => ∃ a b, ρ = [.un, .shr (.raw (.ref r)), a, b]) (fun i x ρ hx iv nx ct hn => ?_) (fun ρ iv => ?_) ⟨_, _, rfl⟩
  · obtain ⟨a, b, rfl⟩ := iv
    have hm := List.mem_of_getElem? hx
    obtain ⟨m, rfl, m1, m2⟩ : ∃ m : Int, x = .int m ∧ 1 ≤ m ∧ m ≤ 40 := by
      simp only [List.mem_cons, List.not_mem_nil, or_false] at hm
      rcases hm with rfl | rfl | rfl <;> exact ⟨_, rfl, by decide, by decide⟩
    simp [-S_law_right, -S_c_word]
    refine ⟨m1, m2, fun gs g0 gl hg => ?_⟩
    have ng : 0 < gs.length := List.length_pos_iff.mpr g0
    refine ⟨gs, true, rfl, by omega, fun w hw0 hok hwl => ?_⟩
    refine ⟨gs, w, rfl, ng, by omega, hw0 rfl, ?_⟩
    exact ⟨rfl, (hn _ ⟨_, _, rfl⟩).1⟩
  · obtain ⟨a, b, rfl⟩ := iv
    simp
end LawP
set_option Elab.async false
set_option linter.all false
set_option maxRecDepth 100000
set_option maxHeartbeats 4000000
namespace LawP
open PySem PySem.Spec PyProof.Rows L2 VL
abbrev topS (i : Nat) : Stmt := PySem.Challenge.pw_matesline_k57_whole_meetings_and_ranges.main.body.getD i (.Pass ⟨0, 0, 0, 0⟩)
section
variable {P : Program} {w : World} {K : PySem.W.Frag} {mg : Str → Option Value} {base : Heap} {b : Bg} {f : Addr} {fd : FuncData}
abbrev s_NoPerson : Stmt := clsDef (topS 3) 0
theorem sc_NoPerson : FnScope ["self", "value"] ["self", "value"] (defScope s_NoPerson) := ⟨rfl, rfl, rfl, by decide +kernel, rfl, by decide +kernel, by decide +kernel⟩
theorem wi_NoPerson {fa : Addr} (F : Fun K "__init__" "NoPerson.__init__" s_NoPerson fa fd) : FnOk P w K mg base (L2.CX P w) 1 fa fd ["self", "value"] (spInit K "value") := ok_init F sc_NoPerson rfl rfl rfl (by decide) (by decide)
abbrev s_c_row : Stmt := topS 51
abbrev N_c_row : List Str := ["_law_crank_here", "_law_size", "_law_groups", "_law_k"]
theorem sc_c_row : FnScope N_c_row ["_law_crank_here", "_law_size"] (defScope s_c_row) := ⟨rfl, rfl, rfl, by decide +kernel, rfl, by decide +kernel, by decide +kernel⟩
theorem w_c_row {S : SV} {S_law_wind : SV} (F : Fun K "_law_row" "_law_row" s_c_row f fd) (F_law_wind : Cal P w K mg base b 1 "_law_wind" ["_law_crank_here", "_law_many"] S_law_wind) (n_tuple : mg "tuple" = none) (n_range : mg "range" = none) (hlen : ∀ ds Q E, S ds Q E → ds.length = 2)
    (law : ∀ ds Q E, S ds Q E → t_c_row S_law_wind (envOf 4 ds) (fin Q E)) : FnOk P w K mg base (L2.CX P w) 2 f fd ["_law_crank_here", "_law_size"] (spV b S) := by
  refine fnV F sc_c_row hlen (by decide) (fun cdv A outer s H E hr tk => ?_) law
  exact (vs_cons (vs_asg (i := 2) sc_c_row.nd rfl (.inr rfl) (ve_ix (VN.toX (vn_lst (va_cons ve_int (va_cons ve_int (va_cons ve_int (va_cons ve_int (va_cons (ve_pow (VE.toX ve_int) (VE.toX ve_int)) va_nil))))))) (VE.toX (ve_cal F_law_wind hr tk (by rfl) (va_cons (ve_var (pv 0)) (va_cons ve_int va_nil))))))
      (vs_one (vs_ret (ve_tupleC (by rfl) n_tuple (vxs_cons (VN.toX (vn_lc (own := [("_law_k", 3)]) rfl sc_c_row.nd (vib_range1 (by rfl) n_range (vxs_cons (VE.toX (ve_add (VE.toX ve_int) (VE.toX (ve_cal F_law_wind hr tk (by rfl) (va_cons (ve_var (pv 0)) (va_cons (ve_var (pv 1)) va_nil)))))) vxs_nil)) (blkOk_by (N := N_c_row) (sc := defScope s_c_row) (by decide +kernel)) (by decide) (fun _ _ _ _ _ => (vg_name (i := 3) sc_c_row.nd rfl (.inl rfl))) (fun _ _ _ _ _ => vts_nil) (fun _ _ _ _ _ => (ve_cal F_law_wind hr takes0 (by rfl) (va_cons (ve_var (pv 0)) (va_cons (ve_var (pv 2)) va_nil)))))) vxs_nil)))))
abbrev s_is_integer : Stmt := topS 9
abbrev N_is_integer : List Str := ["value", "low", "high"]
theorem sc_is_integer : FnScope N_is_integer ["value", "low", "high"] (defScope s_is_integer) := ⟨rfl, rfl, rfl, by decide +kernel, rfl, by decide +kernel, by decide +kernel⟩
theorem w_is_integer {S : SV} (F : Fun K "is_integer" "is_integer" s_is_integer f fd) (n_isinstance : mg "isinstance" = none) (n_bool : mg "bool" = none) (n_int : mg "int" = none) (hlen : ∀ ds Q E, S ds Q E → ds.length = 3)
    (law : ∀ ds Q E, S ds Q E → t_is_integer (envOf 3 ds) (fin Q E)) : FnOk P w K mg base (L2.CX P w) 1 f fd ["value", "low", "high"] (spV b S) := by
  refine fnV F sc_is_integer hlen (by decide) (fun cdv A outer s H E hr tk => ?_) law
  exact (vs_one (vs_ret (ve_and (VE.toX (ve_isi (by rfl) n_isinstance (vxs_cons (vx_var (pv 0)) (vxs_cons (VE.toX (ve_tyInt (by rfl) n_int)) vxs_nil)))) (ve_and (VE.toX (ve_not (VE.toX (ve_isi (by rfl) n_isinstance (vxs_cons (vx_var (pv 0)) (vxs_cons (VE.toX (ve_tyBool (by rfl) n_bool)) vxs_nil)))))) (ve_one (ve_le2 (vx_var (pv 1)) (vx_var (pv 0)) (vx_var (pv 2))))))))
abbrev s_m_places_in : Stmt := topS 16
abbrev N_m_places_in : List Str := ["row", "order", "many", "one", "person"]
theorem sc_m_places_in : FnScope N_m_places_in ["row", "order"] (defScope s_m_places_in) := ⟨rfl, rfl, rfl, by decide +kernel, rfl, by decide +kernel, by decide +kernel⟩
theorem w_m_places_in {S : SV} {S_is_integer : SV} (F : Fun K "places_in" "places_in" s_m_places_in f fd) (F_is_integer : Cal P w K mg base b 1 "is_integer" ["value", "low", "high"] S_is_integer) (n_len : mg "len" = none) (n_isinstance : mg "isinstance" = none) (n_tuple : mg "tuple" = none) (n_all : mg "all" = none) (n_set : mg "set" = none) (n_range : mg "range" = none) (M_NoOrder : Mk0 K mg b "NoOrder") (hlen : ∀ ds Q E, S ds Q E → ds.length = 2)
    (law : ∀ ds Q E, S ds Q E → t_m_places_in S_is_integer (envOf 5 ds) (fin Q E)) : FnOk P w K mg base (L2.CX P w) 2 f fd ["row", "order"] (spV b S) := by
  refine fnV F sc_m_places_in hlen (by decide) (fun cdv A outer s H E hr tk => ?_) law
  have hu := hr.units
  exact (vs_cons (vs_asg (i := 2) sc_m_places_in.nd rfl (.inr rfl) (ve_len (by rfl) n_len (vxs_cons (vx_var (pv 0)) vxs_nil)))
      (vs_cons (vs_if (VWe.pt (vw_or (vt_not (vt_val (VE.toX (ve_isi (by rfl) n_isinstance (vxs_cons (vx_var (pv 1)) (vxs_cons (VE.toX (ve_tyTuple (by rfl) n_tuple)) vxs_nil)))))) (vw_or (vt_ne hu (VE.toX (ve_len (by rfl) n_len (vxs_cons (vx_var (pv 1)) vxs_nil))) (vx_var (pv 2))) (vw_or1 (vt_not (vt_val (VE.toX (ve_all rfl (by rfl) n_all (vxs_cons (VN.toX (vn_lc (own := [("one", 3)]) rfl sc_m_places_in.nd (vib_src (vx_var (pv 1))) (blkOk_by (N := N_m_places_in) (sc := defScope s_m_places_in) (by decide +kernel)) (by decide) (fun _ _ _ _ _ => (vg_name (i := 3) sc_m_places_in.nd rfl (.inl rfl))) (fun _ _ _ _ _ => vts_nil) (fun _ _ _ _ _ => (ve_cal F_is_integer hr takes0 (by rfl) (va_cons (ve_var (pv 3)) (va_cons ve_int (va_cons (ve_sub (vx_var (pv 2)) (VE.toX ve_int)) va_nil))))))) vxs_nil)))))))))
      (vs_one (vs_raise0 M_NoOrder rfl tk (by rfl)))
      vs_nil)
      (vs_cons (vs_if (vt_lt (VE.toX (ve_lenSet rfl (by rfl) n_len (by rfl) n_set (vx_var (pv 1)))) (vx_var (pv 2)))
      (vs_one (vs_raise0 M_NoOrder rfl tk (by rfl)))
      vs_nil)
      (vs_one (vs_ret (VN.toE (vn_lc (own := [("person", 4)]) rfl sc_m_places_in.nd (vib_range1 (by rfl) n_range (vxs_cons (vx_var (pv 2)) vxs_nil)) (blkOk_by (N := N_m_places_in) (sc := defScope s_m_places_in) (by decide +kernel)) (by decide) (fun _ _ _ _ _ => (vg_name (i := 4) sc_m_places_in.nd rfl (.inl rfl))) (fun _ _ _ _ _ => vts_nil) (fun _ _ _ _ _ => (ve_mth (mx_index (hu65 hr)) (vx_var (pv 1)) (vxs_cons (vx_var (pv 4)) vxs_nil))))))))))
abbrev s_mates : Stmt := topS 10
abbrev N_mates : List Str := ["row", "found", "last", "person", "group"]
theorem sc_mates : FnScope N_mates ["row"] (defScope s_mates) := ⟨rfl, rfl, rfl, by decide +kernel, rfl, by decide +kernel, by decide +kernel⟩
theorem w_mates {S : SV} (F : Fun K "mates" "mates" s_mates f fd) (n_enumerate : mg "enumerate" = none) (n_tuple : mg "tuple" = none) (hlen : ∀ ds Q E, S ds Q E → ds.length = 1)
    (law : ∀ ds Q E, S ds Q E → t_mates (envOf 5 ds) (fin Q E)) : FnOk P w K mg base (L2.CX P w) 1 f fd ["row"] (spV b S) := by
  refine fnV F sc_mates hlen (by decide) (fun cdv A outer s H E hr tk => ?_) law
  exact (vs_cons (vs_par2 (i := 1) (j := 2) rfl sc_mates.nd rfl rfl (by decide) rfl rfl (vm_nw (vn_lst va_nil) (vm_nw vn_dict0 vm_nil)) (by rfl))
      (vs_cons (vs_for (passes_of rfl) rfl (vi_enum (by rfl) n_enumerate (va_cons (ve_var (pv 0)) va_nil)) (vg_tup rfl (vgs_cons (vg_name (i := 3) sc_mates.nd rfl (.inl rfl)) (vgs_cons (vg_name (i := 4) sc_mates.nd rfl (.inl rfl)) vgs_nil)))
      (vs_cons (vs_app (pv 1) (va_cons (ve_dget2 (hu_of hr) (vx_var (pv 2)) (ve_var (pv 4)) ve_non ⟨rfl, rfl, rfl, rfl⟩) va_nil))
      (vs_one (vs_dputO (hu_of hr) (pv 2) (ve_var (pv 4)) (ve_var (pv 3))))))
      (vs_one (vs_ret (ve_tupleC (by rfl) n_tuple (vxs_cons (vx_var (pv 1)) vxs_nil))))))
abbrev s_bounds_for : Stmt := topS 18
abbrev N_bounds_for : List Str := ["person", "places", "mate", "place", "leads", "other"]
theorem sc_bounds_for : FnScope N_bounds_for ["person", "places", "mate"] (defScope s_bounds_for) := ⟨rfl, rfl, rfl, by decide +kernel, rfl, by decide +kernel, by decide +kernel⟩
theorem w_bounds_for {S : SV} (F : Fun K "bounds_for" "bounds_for" s_bounds_for f fd) (n_all : mg "all" = none) (M_Impossible : Mk0 K mg b "Impossible") (hlen : ∀ ds Q E, S ds Q E → ds.length = 3)
    (law : ∀ ds Q E, S ds Q E → t_bounds_for (envOf 6 ds) (fin Q E)) : FnOk P w K mg base (L2.CX P w) 1 f fd ["person", "places", "mate"] (spV b S) := by
  refine fnV F sc_bounds_for hlen (by decide) (fun cdv A outer s H E hr tk => ?_) law
  have hu := hr.units
  exact (vs_cons (vs_asg (i := 3) sc_bounds_for.nd rfl (.inr rfl) (ve_ix (vx_var (pv 1)) (vx_var (pv 0))))
      (vs_cons (vs_asg (i := 4) sc_bounds_for.nd rfl (.inl rfl) (ve_all rfl (by rfl) n_all (vxs_cons (VN.toX (vn_lc (own := [("other", 5)]) rfl sc_bounds_for.nd (vib_src (VE.toX (ve_sl (vx_var (pv 1)) vo_no (vo_at (vx_var (pv 0)))))) (blkOk_by (N := N_bounds_for) (sc := defScope s_bounds_for) (by decide +kernel)) (by decide) (fun _ _ _ _ _ => (vg_name (i := 5) sc_bounds_for.nd rfl (.inl rfl))) (fun _ _ _ _ _ => vts_nil) (fun _ _ _ _ _ => (ve_lt (vx_var (pv 5)) (vx_var (pv 3)))))) vxs_nil)))
      (vs_cons (vs_if (VWe.pt (vw_or (vt_isN (vx_var (pv 2)) (VE.toX ve_non)) (vw_or1 (vt_ne hu (VE.toX (ve_add (VE.toX (ve_ix (vx_var (pv 1)) (vx_var (pv 2)))) (VE.toX ve_int))) (vx_var (pv 3))))))
      (vs_cons (vs_if (vt_not (vt_val (vx_var (pv 4))))
      (vs_one (vs_raise0 M_Impossible rfl tk (by rfl)))
      vs_nil)
      (vs_one (vs_ret (ve_tup (va_cons (ve_if (vt_isN (vx_var (pv 2)) (VE.toX ve_non)) ve_int (ve_add (VE.toX (ve_ix (vx_var (pv 1)) (vx_var (pv 2)))) (VE.toX ve_int))) (va_cons (ve_var (pv 3)) va_nil))))))
      vs_nil)
      (vs_one (vs_ret (ve_tup (va_cons ve_int (va_cons (ve_if (vt_val (vx_var (pv 4))) (ve_var (pv 3)) (ve_ix (vx_var (pv 1)) (vx_var (pv 2)))) va_nil))))))))
abbrev s_Limits_init : Stmt := clsDef (topS 19) 0
abbrev N_Limits_init : List Str := ["self", "row", "order", "pairs", "person", "mate", "low", "high"]
theorem sc_Limits_init : FnScope N_Limits_init ["self", "row", "order"] (defScope s_Limits_init) := ⟨rfl, rfl, rfl, by decide +kernel, rfl, by decide +kernel, by decide +kernel⟩
theorem w_Limits_init {S : SI} {S_m_places_in : SV} {S_mates : SV} {S_bounds_for : SV} (F : Fun K "__init__" "Limits.__init__" s_Limits_init f fd) (F_m_places_in : Cal P w K mg base b 2 "places_in_measures" ["row", "order"] S_m_places_in) (F_mates : Cal P w K mg base b 1 "mates" ["row"] S_mates) (F_bounds_for : Cal P w K mg base b 1 "bounds_for" ["person", "places", "mate"] S_bounds_for) (n_enumerate : mg "enumerate" = none) (n_range : mg "range" = none) (n_len : mg "len" = none) (n_max : mg "max" = none) (n_min : mg "min" = none) (n_any : mg "any" = none) (n_zip : mg "zip" = none) (CL_Limits : Cls K (b.cls "Limits")) (NA_Limits_places : NoAttr K (b.cls "Limits") "places") (NA_Limits_mates : NoAttr K (b.cls "Limits") "mates") (NA_Limits_lows : NoAttr K (b.cls "Limits") "lows") (NA_Limits_highs : NoAttr K (b.cls "Limits") "highs") (M_Impossible : Mk0 K mg b "Impossible") (hlen : ∀ ds Q E, S ds Q E → ds.length + 1 = 3)
    (law : ∀ x ds Q E, S ds Q E → t_Limits_init S_m_places_in S_mates S_bounds_for (envI x "Limits" 8 ds) (finI x "Limits" Q E)) : FnOk P w K mg base (L2.CX P w) 3 f fd ["self", "row", "order"] (spI b "Limits" S) := by
  refine fnI F sc_Limits_init hlen (by decide) (fun cdv A outer s H E hr tk => ?_) law
  exact (vs_cons (vs_fld CL_Limits NA_Limits_places (pv 0) (ve_cal F_m_places_in hr tk (by rfl) (va_cons (ve_var (pv 1)) (va_cons (ve_var (pv 2)) va_nil))))
      (vs_cons (vs_fld CL_Limits NA_Limits_mates (pv 0) (ve_cal F_mates hr tk (by rfl) (va_cons (ve_var (pv 1)) va_nil)))
      (vs_cons (vs_asg (i := 3) sc_Limits_init.nd rfl (.inr rfl) (VN.toE (vn_lcE (own := [("person", 4), ("mate", 5)]) rfl rfl tk rfl sc_Limits_init.nd (vib_enum (by rfl) n_enumerate (vxs_cons (VE.toX (ve_fld CL_Limits NA_Limits_mates (vx_var (pv 0)))) vxs_nil)) (blkOk_by (N := N_Limits_init) (sc := defScope s_Limits_init) (by decide +kernel)) (by decide) (fun _ _ _ _ _ => (vg_tup rfl (vgs_cons (vg_name (i := 4) sc_Limits_init.nd rfl (.inl rfl)) (vgs_cons (vg_name (i := 5) sc_Limits_init.nd rfl (.inl rfl)) vgs_nil)))) (fun _ _ _ _ _ => vts_nil) (fun _ _ _ _ _ _ _ hx => (ve_calP F_bounds_for hr hx (by rfl) (va_cons (ve_var (pv 4)) (va_cons (ve_fld CL_Limits NA_Limits_places (vx_var (pv 0))) (va_cons (ve_var (pv 5)) va_nil))))))))
      (vs_cons (vs_fld CL_Limits NA_Limits_lows (pv 0) (VN.toE (vn_lc (own := [("person", 4)]) rfl sc_Limits_init.nd (vib_range1 (by rfl) n_range (vxs_cons (VE.toX (ve_len (by rfl) n_len (vxs_cons (vx_var (pv 1)) vxs_nil))) vxs_nil)) (blkOk_by (N := N_Limits_init) (sc := defScope s_Limits_init) (by decide +kernel)) (by decide) (fun _ _ _ _ _ => (vg_name (i := 4) sc_Limits_init.nd rfl (.inl rfl))) (fun _ _ _ _ _ => vts_nil) (fun _ _ _ _ _ => (ve_max rfl (by rfl) n_max (vxs_cons (VN.toX (vn_lc (own := [("low", 6), ("high", 7)]) rfl sc_Limits_init.nd (vib_src (VE.toX (ve_sl (vx_var (pv 3)) vo_no (vo_at (VE.toX (ve_add (vx_var (pv 4)) (VE.toX ve_int))))))) (blkOk_by (by kernel_rfl)) (by decide) (fun _ _ _ _ _ => (vg_tup rfl (vgs_cons (vg_name (i := 6) sc_Limits_init.nd rfl (.inl rfl)) (vgs_cons (vg_name (i := 7) sc_Limits_init.nd rfl (.inl rfl)) vgs_nil)))) (fun _ _ _ _ _ => vts_nil) (fun _ _ _ _ _ => (ve_var (pv 6))))) vxs_nil))))))
      (vs_cons (vs_fld CL_Limits NA_Limits_highs (pv 0) (VN.toE (vn_lc (own := [("person", 4)]) rfl sc_Limits_init.nd (vib_range1 (by rfl) n_range (vxs_cons (VE.toX (ve_len (by rfl) n_len (vxs_cons (vx_var (pv 1)) vxs_nil))) vxs_nil)) (blkOk_by (N := N_Limits_init) (sc := defScope s_Limits_init) (by decide +kernel)) (by decide) (fun _ _ _ _ _ => (vg_name (i := 4) sc_Limits_init.nd rfl (.inl rfl))) (fun _ _ _ _ _ => vts_nil) (fun _ _ _ _ _ => (ve_min rfl (by rfl) n_min (vxs_cons (VN.toX (vn_lc (own := [("low", 6), ("high", 7)]) rfl sc_Limits_init.nd (vib_src (VE.toX (ve_sl (vx_var (pv 3)) (vo_at (vx_var (pv 4))) vo_no))) (blkOk_by (by kernel_rfl)) (by decide) (fun _ _ _ _ _ => (vg_tup rfl (vgs_cons (vg_name (i := 6) sc_Limits_init.nd rfl (.inl rfl)) (vgs_cons (vg_name (i := 7) sc_Limits_init.nd rfl (.inl rfl)) vgs_nil)))) (fun _ _ _ _ _ => vts_nil) (fun _ _ _ _ _ => (ve_var (pv 7))))) vxs_nil))))))
      (vs_one (vs_if (vt_val (VE.toX (ve_any rfl (by rfl) n_any (vxs_cons (VN.toX (vn_lc (own := [("low", 6), ("high", 7)]) rfl sc_Limits_init.nd (vib_zip2 (by rfl) n_zip (vxs_cons (VE.toX (ve_fld CL_Limits NA_Limits_lows (vx_var (pv 0)))) (vxs_cons (VE.toX (ve_fld CL_Limits NA_Limits_highs (vx_var (pv 0)))) vxs_nil))) (blkOk_by (N := N_Limits_init) (sc := defScope s_Limits_init) (by decide +kernel)) (by decide) (fun _ _ _ _ _ => (vg_tup rfl (vgs_cons (vg_name (i := 6) sc_Limits_init.nd rfl (.inl rfl)) (vgs_cons (vg_name (i := 7) sc_Limits_init.nd rfl (.inl rfl)) vgs_nil)))) (fun _ _ _ _ _ => vts_nil) (fun _ _ _ _ _ => (ve_gt (vx_var (pv 6)) (vx_var (pv 7)))))) vxs_nil))))
      (vs_one (vs_raise0 M_Impossible rfl tk (by rfl)))
      vs_nil)))))))
abbrev s_Limits_meeting : Stmt := clsDef (topS 19) 1
abbrev N_Limits_meeting : List Str := ["self", "one", "other"]
theorem sc_Limits_meeting : FnScope N_Limits_meeting ["self", "one", "other"] (defScope s_Limits_meeting) := ⟨rfl, rfl, rfl, by decide +kernel, rfl, by decide +kernel, by decide +kernel⟩
theorem w_Limits_meeting {S : SV} (F : Fun K "meeting" "Limits.meeting" s_Limits_meeting f fd) (c_NEVER : ∃ t, mg "NEVER" = some (.str "never" t)) (c_ALWAYS : ∃ t, mg "ALWAYS" = some (.str "always" t)) (c_SOMETIMES : ∃ t, mg "SOMETIMES" = some (.str "sometimes" t)) (CL_Limits : Cls K (b.cls "Limits")) (NA_Limits_lows : NoAttr K (b.cls "Limits") "lows") (NA_Limits_places : NoAttr K (b.cls "Limits") "places") (NA_Limits_highs : NoAttr K (b.cls "Limits") "highs") (hlen : ∀ ds Q E, S ds Q E → ds.length = 3)
    (law : ∀ ds Q E, S ds Q E → t_Limits_meeting (envOf 3 ds) (fin Q E)) : FnOk P w K mg base (L2.CX P w) 1 f fd ["self", "one", "other"] (spV b S) := by
  refine fnV F sc_Limits_meeting hlen (by decide) (fun cdv A outer s H E hr tk => ?_) law
  exact (vs_cons (vs_if (VWe.pt (vw_or (vt_le (vx_var (pv 1)) (vx_var (pv 2))) (vw_or1 (vt_gt (VE.toX (ve_ix (VE.toX (ve_fld CL_Limits NA_Limits_lows (vx_var (pv 0)))) (vx_var (pv 1)))) (VE.toX (ve_ix (VE.toX (ve_fld CL_Limits NA_Limits_places (vx_var (pv 0)))) (vx_var (pv 2))))))))
      (vs_one (vs_ret (ve_gstr (by rfl) c_NEVER)))
      vs_nil)
      (vs_one (vs_ret (ve_if (vt_le (VE.toX (ve_ix (VE.toX (ve_fld CL_Limits NA_Limits_highs (vx_var (pv 0)))) (vx_var (pv 1)))) (VE.toX (ve_ix (VE.toX (ve_fld CL_Limits NA_Limits_places (vx_var (pv 0)))) (vx_var (pv 2))))) (ve_gstr (by rfl) c_ALWAYS) (ve_gstr (by rfl) c_SOMETIMES)))))
abbrev s_Limits_joining : Stmt := clsDef (topS 19) 3
abbrev N_Limits_joining : List Str := ["self", "word", "pairs", "person", "mate"]
theorem sc_Limits_joining : FnScope N_Limits_joining ["self", "word"] (defScope s_Limits_joining) := ⟨rfl, rfl, rfl, by decide +kernel, rfl, by decide +kernel, by decide +kernel⟩
theorem w_Limits_joining {S : SV} {S_Limits_meeting : SV} (F : Fun K "joining" "Limits.joining" s_Limits_joining f fd) (F_Limits_meeting : CalM P w K mg base b 1 "Limits" "meeting" ["self", "one", "other"] S_Limits_meeting) (n_enumerate : mg "enumerate" = none) (n_tuple : mg "tuple" = none) (CL_Limits : Cls K (b.cls "Limits")) (NA_Limits_mates : NoAttr K (b.cls "Limits") "mates") (hlen : ∀ ds Q E, S ds Q E → ds.length = 2)
    (law : ∀ ds Q E, S ds Q E → t_Limits_joining S_Limits_meeting (envOf 5 ds) (fin Q E)) : FnOk P w K mg base (L2.CX P w) 2 f fd ["self", "word"] (spV b S) := by
  refine fnV F sc_Limits_joining hlen (by decide) (fun cdv A outer s H E hr tk => ?_) law
  have hu := hr.units
  exact (vs_cons (vs_setLcE (i := 2) (own := [("person", 3), ("mate", 4)]) rfl sc_Limits_joining.nd rfl rfl (by rfl) (vib_enum (by rfl) n_enumerate (vxs_cons (VE.toX (ve_fld CL_Limits NA_Limits_mates (vx_var (pv 0)))) vxs_nil)) (blkOk_by (N := N_Limits_joining) (sc := defScope s_Limits_joining) (by decide +kernel)) (by decide) (fun _ _ _ _ _ => (vg_tup rfl (vgs_cons (vg_name (i := 3) sc_Limits_joining.nd rfl (.inl rfl)) (vgs_cons (vg_name (i := 4) sc_Limits_joining.nd rfl (.inl rfl)) vgs_nil)))) (fun _ _ _ _ _ => (vts_one (vt_notN (vx_var (pv 4)) (VE.toX ve_non)))) (fun _ _ _ _ _ => (ve_tup (va_cons (ve_var (pv 3)) (va_cons (ve_var (pv 4)) va_nil)))))
      (vs_one (vs_ret (ve_tupleC (by rfl) n_tuple (vxs_cons (VN.toX (vn_lc (own := [("person", 3), ("mate", 4)]) rfl sc_Limits_joining.nd (vib_src (vx_var (pv 2))) (blkOk_by (N := N_Limits_joining) (sc := defScope s_Limits_joining) (by decide +kernel)) (by decide) (fun _ _ _ _ _ => (vg_tup rfl (vgs_cons (vg_name (i := 3) sc_Limits_joining.nd rfl (.inl rfl)) (vgs_cons (vg_name (i := 4) sc_Limits_joining.nd rfl (.inl rfl)) vgs_nil)))) (fun _ _ _ _ _ => (vts_one (vt_eq hu (VE.toX (ve_meth F_Limits_meeting hr takes0 (ve_var (pv 0)) (va_cons (ve_var (pv 3)) (va_cons (ve_var (pv 4)) va_nil)))) (vx_var (pv 1))))) (fun _ _ _ _ _ => (ve_var (pv 3))))) vxs_nil)))))
abbrev s_joiners : Stmt := topS 24
abbrev N_joiners : List Str := ["row", "order", "found"]
theorem sc_joiners : FnScope N_joiners ["row", "order"] (defScope s_joiners) := ⟨rfl, rfl, rfl, by decide +kernel, rfl, by decide +kernel, by decide +kernel⟩
theorem w_joiners {S : SV} {S_Limits_init : SI} {S_Limits_joining : SV} (F : Fun K "joiners" "joiners" s_joiners f fd) (F_Limits_init : CalI P w K mg base b 3 "Limits" ["self", "row", "order"] S_Limits_init) (F_Limits_joining : CalM P w K mg base b 2 "Limits" "joining" ["self", "word"] S_Limits_joining) (c_ALWAYS : ∃ t, mg "ALWAYS" = some (.str "always" t)) (c_SOMETIMES : ∃ t, mg "SOMETIMES" = some (.str "sometimes" t)) (hlen : ∀ ds Q E, S ds Q E → ds.length = 2)
    (law : ∀ ds Q E, S ds Q E → t_joiners S_Limits_init S_Limits_joining (envOf 3 ds) (fin Q E)) : FnOk P w K mg base (L2.CX P w) 5 f fd ["row", "order"] (spV b S) := by
  refine fnV F sc_joiners hlen (by decide) (fun cdv A outer s H E hr tk => ?_) law
  exact (vs_cons (vs_asg (i := 2) sc_joiners.nd rfl (.inl rfl) (VN.toE (vn_make F_Limits_init hr tk (by rfl) (va_cons (ve_var (pv 0)) (va_cons (ve_var (pv 1)) va_nil)))))
      (vs_one (vs_ret (ve_tup (va_cons (ve_meth F_Limits_joining hr tk (ve_var (pv 2)) (va_cons (ve_gstr (by rfl) c_ALWAYS) va_nil)) (va_cons (ve_meth F_Limits_joining hr tk (ve_var (pv 2)) (va_cons (ve_gstr (by rfl) c_SOMETIMES) va_nil)) va_nil))))))
abbrev s_c_mates : Stmt := topS 52
abbrev N_c_mates : List Str := ["_law_row_here", "_law_found", "_law_person", "_law_same", "_law_other"]
theorem sc_c_mates : FnScope N_c_mates ["_law_row_here"] (defScope s_c_mates) := ⟨rfl, rfl, rfl, by decide +kernel, rfl, by decide +kernel, by decide +kernel⟩
theorem w_c_mates {S : SV} (F : Fun K "_law_mates" "_law_mates" s_c_mates f fd) (n_range : mg "range" = none) (n_len : mg "len" = none) (hlen : ∀ ds Q E, S ds Q E → ds.length = 1)
    (law : ∀ ds Q E, S ds Q E → t_c_mates (envOf 5 ds) (fin Q E)) : FnOk P w K mg base (L2.CX P w) 1 f fd ["_law_row_here"] (spV b S) := by
  refine fnV F sc_c_mates hlen (by decide) (fun cdv A outer s H E hr tk => ?_) law
  have hu := hr.units
  exact (vs_cons (vs_asgN (i := 1) sc_c_mates.nd rfl (.inl rfl) (vn_lst va_nil))
      (vs_cons (vs_for (passes_of rfl) rfl (vi_range1 (by rfl) n_range (vxs_cons (VE.toX (ve_len (by rfl) n_len (vxs_cons (vx_var (pv 0)) vxs_nil))) vxs_nil)) (vg_name (i := 2) sc_c_mates.nd rfl (.inr rfl))
      (vs_cons (vs_setLcE (i := 3) (own := [("_law_other", 4)]) rfl sc_c_mates.nd rfl rfl (by rfl) (vib_range1 (by rfl) n_range (vxs_cons (vx_var (pv 2)) vxs_nil)) (blkOk_by (N := N_c_mates) (sc := defScope s_c_mates) (by decide +kernel)) (by decide) (fun _ _ _ _ _ => (vg_name (i := 4) sc_c_mates.nd rfl (.inl rfl))) (fun _ _ _ _ _ => (vts_one (vt_eq hu (VE.toX (ve_ix (vx_var (pv 0)) (vx_var (pv 4)))) (VE.toX (ve_ix (vx_var (pv 0)) (vx_var (pv 2))))))) (fun _ _ _ _ _ => (ve_var (pv 4))))
      (vs_one (vs_app (pv 1) (va_cons (ve_if (vt_ne hu (vx_var (pv 3)) (VN.toX (vn_lst va_nil))) (ve_ix (vx_var (pv 3)) (VE.toX (ve_neg (VE.toX ve_int)))) ve_non) va_nil)))))
      (vs_one (vs_frz 1 (vs_ret (ve_var (pv 1)))))))
abbrev s_c_come : Stmt := topS 53
abbrev N_c_come : List Str := ["_law_waiting", "_law_person", "_law_mate", "_law_spot"]
theorem sc_c_come : FnScope N_c_come ["_law_waiting", "_law_person", "_law_mate"] (defScope s_c_come) := ⟨rfl, rfl, rfl, by decide +kernel, rfl, by decide +kernel, by decide +kernel⟩
theorem w_c_come {S : SV} (F : Fun K "_law_come" "_law_come" s_c_come f fd) (hlen : ∀ ds Q E, S ds Q E → ds.length = 3)
    (law : ∀ ds Q E, S ds Q E → t_c_come (envOf 4 ds) (fin Q E)) : FnOk P w K mg base (L2.CX P w) 1 f fd ["_law_waiting", "_law_person", "_law_mate"] (spV b S) := by
  refine fnV F sc_c_come hlen (by decide) (fun cdv A outer s H E hr tk => ?_) law
  have hu := hr.units
  exact (vs_cons (vs_if (vt_notIn hu (vx_var (pv 2)) (vx_var (pv 0)))
      (vs_one (vs_ret (ve_add (vx_var (pv 0)) (VN.toX (vn_lst (va_cons (ve_var (pv 1)) va_nil))))))
      vs_nil)
      (vs_cons (vs_asg (i := 3) sc_c_come.nd rfl (.inl rfl) (ve_mth (mx_index (hu65 hr)) (vx_var (pv 0)) (vxs_cons (vx_var (pv 2)) vxs_nil)))
      (vs_one (vs_ret (ve_add (VE.toX (ve_add (VE.toX (ve_sl (vx_var (pv 0)) vo_no (vo_at (VE.toX (ve_add (vx_var (pv 3)) (VE.toX ve_int)))))) (VN.toX (vn_lst (va_cons (ve_var (pv 1)) va_nil))))) (VE.toX (ve_sl (vx_var (pv 0)) (vo_at (VE.toX (ve_add (vx_var (pv 3)) (VE.toX ve_int)))) vo_no)))))))
abbrev s_c_play : Stmt := topS 54
abbrev N_c_play : List Str := ["_law_row_here", "_law_word_here", "_law_found", "_law_waiting", "_law_person", "_law_pals", "_law_letter", "_law_later"]
theorem sc_c_play : FnScope N_c_play ["_law_row_here", "_law_word_here"] (defScope s_c_play) := ⟨rfl, rfl, rfl, by decide +kernel, rfl, by decide +kernel, by decide +kernel⟩
theorem w_c_play {S : SV} {S_c_mates : SV} {S_c_come : SV} (F : Fun K "_law_play" "_law_play" s_c_play f fd) (F_c_mates : Cal P w K mg base b 1 "_law_mates" ["_law_row_here"] S_c_mates) (F_c_come : Cal P w K mg base b 1 "_law_come" ["_law_waiting", "_law_person", "_law_mate"] S_c_come) (hlen : ∀ ds Q E, S ds Q E → ds.length = 2)
    (law : ∀ ds Q E, S ds Q E → t_c_play S_c_mates S_c_come (envOf 8 ds) (fin Q E)) : FnOk P w K mg base (L2.CX P w) 2 f fd ["_law_row_here", "_law_word_here"] (spV b S) := by
  refine fnV F sc_c_play hlen (by decide) (fun cdv A outer s H E hr tk => ?_) law
  have hu := hr.units
  exact (vs_cons (vs_parT (is := [2, 3, 4, 5]) rfl (pgs_cons (pg_name (i := 2) sc_c_play.nd rfl (.inl rfl)) (pgs_cons (pg_name (i := 3) sc_c_play.nd rfl (.inl rfl)) (pgs_cons (pg_name (i := 4) sc_c_play.nd rfl (.inl rfl)) (pgs_cons (pg_name (i := 5) sc_c_play.nd rfl (.inl rfl)) pgs_nil)))) (vm_nw (vn_lst va_nil) (vm_sh (VN.toE (vn_lst va_nil)) (vm_sh ve_int (vm_sh (ve_cal F_c_mates hr tk (by rfl) (va_cons (ve_var (pv 0)) va_nil)) vm_nil)))))
      (vs_cons (vs_for (passes_of rfl) rfl (vi_src (ve_var (pv 1))) (vg_name (i := 6) sc_c_play.nd rfl (.inl rfl))
      (vs_cons (vs_if (vt_eq hu (vx_var (pv 6)) (VE.toX ve_str))
      (vs_cons (vs_asg (i := 7) sc_c_play.nd rfl (.inl rfl) (ve_cal F_c_come hr tk (by rfl) (va_cons (ve_var (pv 3)) (va_cons (ve_var (pv 4)) (va_cons (ve_ix (vx_var (pv 5)) (vx_var (pv 4))) va_nil)))))
      (vs_cons (vs_app (pv 2) (va_cons (VN.toE (vn_lst (va_cons (ve_var (pv 6)) (va_cons (ve_var (pv 4)) (va_cons (ve_var (pv 3)) (va_cons (ve_var (pv 7)) va_nil)))))) va_nil))
      (vs_one (vs_asg (i := 4) sc_c_play.nd rfl (.inl rfl) (ve_add (vx_var (pv 4)) (VE.toX ve_int))))))
      (vs_cons (vs_asg (i := 7) sc_c_play.nd rfl (.inl rfl) (ve_sl (vx_var (pv 3)) (vo_at (VE.toX ve_int)) vo_no))
      (vs_one (vs_app (pv 2) (va_cons (VN.toE (vn_lst (va_cons (ve_var (pv 6)) (va_cons (ve_ix (vx_var (pv 3)) (VE.toX ve_int)) (va_cons (ve_var (pv 3)) (va_cons (ve_var (pv 7)) va_nil)))))) va_nil)))))
      (vs_one (vs_asg (i := 3) sc_c_play.nd rfl (.inl rfl) (ve_var (pv 7))))))
      (vs_one (vs_frz 2 (vs_ret (ve_var (pv 2)))))))
abbrev s_c_order : Stmt := topS 56
abbrev N_c_order : List Str := ["_law_row_here", "_law_word_here", "_law_step"]
theorem sc_c_order : FnScope N_c_order ["_law_row_here", "_law_word_here"] (defScope s_c_order) := ⟨rfl, rfl, rfl, by decide +kernel, rfl, by decide +kernel, by decide +kernel⟩
theorem w_c_order {S : SV} {S_c_play : SV} (F : Fun K "_law_order" "_law_order" s_c_order f fd) (F_c_play : Cal P w K mg base b 2 "_law_play" ["_law_row_here", "_law_word_here"] S_c_play) (n_tuple : mg "tuple" = none) (hlen : ∀ ds Q E, S ds Q E → ds.length = 2)
    (law : ∀ ds Q E, S ds Q E → t_c_order S_c_play (envOf 3 ds) (fin Q E)) : FnOk P w K mg base (L2.CX P w) 3 f fd ["_law_row_here", "_law_word_here"] (spV b S) := by
  refine fnV F sc_c_order hlen (by decide) (fun cdv A outer s H E hr tk => ?_) law
  have hu := hr.units
  exact (vs_one (vs_ret (ve_tupleC (by rfl) n_tuple (vxs_cons (VN.toX (vn_lc (own := [("_law_step", 2)]) rfl sc_c_order.nd (vib_src (VE.toX (ve_cal F_c_play hr tk (by rfl) (va_cons (ve_var (pv 0)) (va_cons (ve_var (pv 1)) va_nil))))) (blkOk_by (N := N_c_order) (sc := defScope s_c_order) (by decide +kernel)) (by decide) (fun _ _ _ _ _ => (vg_name (i := 2) sc_c_order.nd rfl (.inl rfl))) (fun _ _ _ _ _ => (vts_one (vt_eq hu (VE.toX (ve_ix (vx_var (pv 2)) (VE.toX ve_int))) (VE.toX ve_str)))) (fun _ _ _ _ _ => (ve_ix (vx_var (pv 2)) (VE.toX ve_int))))) vxs_nil))))
abbrev s_law_met : Stmt := topS 57
abbrev N_law_met : List Str := ["_law_row_here", "_law_word_here", "_law_step"]
theorem sc_law_met : FnScope N_law_met ["_law_row_here", "_law_word_here"] (defScope s_law_met) := ⟨rfl, rfl, rfl, by decide +kernel, rfl, by decide +kernel, by decide +kernel⟩
theorem w_law_met {S : SV} {S_c_play : SV} (F : Fun K "_law_met" "_law_met" s_law_met f fd) (F_c_play : Cal P w K mg base b 2 "_law_play" ["_law_row_here", "_law_word_here"] S_c_play) (n_tuple : mg "tuple" = none) (n_sorted : mg "sorted" = none) (hlen : ∀ ds Q E, S ds Q E → ds.length = 2)
    (law : ∀ ds Q E, S ds Q E → t_law_met S_c_play (envOf 3 ds) (fin Q E)) : FnOk P w K mg base (L2.CX P w) 3 f fd ["_law_row_here", "_law_word_here"] (spV b S) := by
  refine fnV F sc_law_met hlen (by decide) (fun cdv A outer s H E hr tk => ?_) law
  have hu := hr.units
  exact (vs_one (vs_ret (VN.toE (vn_lc (own := [("_law_step", 2)]) rfl sc_law_met.nd (vib_src (VE.toX (ve_cal F_c_play hr tk (by rfl) (va_cons (ve_var (pv 0)) (va_cons (ve_var (pv 1)) va_nil))))) (blkOk_by (N := N_law_met) (sc := defScope s_law_met) (by decide +kernel)) (by decide) (fun _ _ _ _ _ => (vg_name (i := 2) sc_law_met.nd rfl (.inl rfl))) (fun _ _ _ _ _ => (vts_one (vt_eq hu (VE.toX (ve_ix (vx_var (pv 2)) (VE.toX ve_int))) (VE.toX ve_str)))) (fun _ _ _ _ _ => (ve_tupleC (by rfl) n_tuple (vxs_cons (VN.toX (vn_sortedC (by rfl) n_sorted (vxs_cons (VE.toX (ve_ix (vx_var (pv 2)) (VE.toX ve_int))) vxs_nil))) vxs_nil)))))))
abbrev s_check_persons : Stmt := topS 20
abbrev N_check_persons : List Str := ["row", "order", "persons", "person"]
theorem sc_check_persons : FnScope N_check_persons ["row", "order", "persons"] (defScope s_check_persons) := ⟨rfl, rfl, rfl, by decide +kernel, rfl, by decide +kernel, by decide +kernel⟩
theorem w_check_persons {S : SV} {S_m_places_in : SV} {S_is_integer : SV} (F : Fun K "check_persons" "check_persons" s_check_persons f fd) (F_m_places_in : Cal P w K mg base b 2 "places_in_measures" ["row", "order"] S_m_places_in) (F_is_integer : Cal P w K mg base b 1 "is_integer" ["value", "low", "high"] S_is_integer) (n_len : mg "len" = none) (M_NoPerson : Mk1 P w K mg base b "NoPerson" "value") (hlen : ∀ ds Q E, S ds Q E → ds.length = 3)
    (law : ∀ ds Q E, S ds Q E → t_check_persons S_m_places_in S_is_integer (envOf 4 ds) (fin Q E)) : FnR P w K mg base (L2.CX P w) 3 f (spV b (svStarN 2 S)) := by
  refine fnStarN (ps := ["row", "order"]) (pv := "persons") F sc_check_persons hlen (by decide) (fun _ _ _ _ _ _ us rest hl => match us, rest, hl with | [_, _], [], _ => rfl | [_, _], _ :: _, _ => rfl) (fun cdv A outer s H E hr tk => ?_) law
  exact (vs_cons (vs_expr (ve_cal F_m_places_in hr tk (by rfl) (va_cons (ve_var (pv 0)) (va_cons (ve_var (pv 1)) va_nil))))
      (vs_one (vs_for (passes_of rfl) rfl (vi_src (ve_var (pv 2))) (vg_name (i := 3) sc_check_persons.nd rfl (.inl rfl))
      (vs_one (vs_if (vt_not (vt_val (VE.toX (ve_cal F_is_integer hr tk (by rfl) (va_cons (ve_var (pv 3)) (va_cons ve_int (va_cons (ve_sub (VE.toX (ve_len (by rfl) n_len (vxs_cons (vx_var (pv 0)) vxs_nil))) (VE.toX ve_int)) va_nil)))))))
      (vs_one (vs_raise1 M_NoPerson hr rfl tk (by rfl) (ve_var (pv 3))))
      vs_nil)))))
abbrev s_Limits_met : Stmt := clsDef (topS 19) 2
abbrev N_Limits_met : List Str := ["self", "person", "word", "other"]
theorem sc_Limits_met : FnScope N_Limits_met ["self", "person", "word"] (defScope s_Limits_met) := ⟨rfl, rfl, rfl, by decide +kernel, rfl, by decide +kernel, by decide +kernel⟩
theorem w_Limits_met {S : SV} {S_Limits_meeting : SV} (F : Fun K "met" "Limits.met" s_Limits_met f fd) (F_Limits_meeting : CalM P w K mg base b 1 "Limits" "meeting" ["self", "one", "other"] S_Limits_meeting) (n_tuple : mg "tuple" = none) (n_range : mg "range" = none) (hlen : ∀ ds Q E, S ds Q E → ds.length = 3)
    (law : ∀ ds Q E, S ds Q E → t_Limits_met S_Limits_meeting (envOf 4 ds) (fin Q E)) : FnOk P w K mg base (L2.CX P w) 2 f fd ["self", "person", "word"] (spV b S) := by
  refine fnV F sc_Limits_met hlen (by decide) (fun cdv A outer s H E hr tk => ?_) law
  have hu := hr.units
  exact (vs_one (vs_ret (ve_tupleC (by rfl) n_tuple (vxs_cons (VN.toX (vn_lc (own := [("other", 3)]) rfl sc_Limits_met.nd (vib_range1 (by rfl) n_range (vxs_cons (vx_var (pv 1)) vxs_nil)) (blkOk_by (N := N_Limits_met) (sc := defScope s_Limits_met) (by decide +kernel)) (by decide) (fun _ _ _ _ _ => (vg_name (i := 3) sc_Limits_met.nd rfl (.inl rfl))) (fun _ _ _ _ _ => (vts_one (vt_eq hu (VE.toX (ve_meth F_Limits_meeting hr takes0 (ve_var (pv 0)) (va_cons (ve_var (pv 1)) (va_cons (ve_var (pv 3)) va_nil)))) (vx_var (pv 2))))) (fun _ _ _ _ _ => (ve_var (pv 3))))) vxs_nil))))
abbrev s_met_by : Stmt := topS 23
abbrev N_met_by : List Str := ["row", "order", "person", "found"]
theorem sc_met_by : FnScope N_met_by ["row", "order", "person"] (defScope s_met_by) := ⟨rfl, rfl, rfl, by decide +kernel, rfl, by decide +kernel, by decide +kernel⟩
theorem w_met_by {S : SV} {S_check_persons : SV} {S_Limits_init : SI} {S_Limits_met : SV} (F : Fun K "met_by" "met_by" s_met_by f fd) (F_check_persons : CalR P w K mg base b 3 "check_persons" (svStarN 2 S_check_persons)) (F_Limits_init : CalI P w K mg base b 3 "Limits" ["self", "row", "order"] S_Limits_init) (F_Limits_met : CalM P w K mg base b 2 "Limits" "met" ["self", "person", "word"] S_Limits_met) (c_ALWAYS : ∃ t, mg "ALWAYS" = some (.str "always" t)) (c_SOMETIMES : ∃ t, mg "SOMETIMES" = some (.str "sometimes" t)) (hlen : ∀ ds Q E, S ds Q E → ds.length = 3)
    (law : ∀ ds Q E, S ds Q E → t_met_by S_check_persons S_Limits_init S_Limits_met (envOf 4 ds) (fin Q E)) : FnOk P w K mg base (L2.CX P w) 5 f fd ["row", "order", "person"] (spV b S) := by
  refine fnV F sc_met_by hlen (by decide) (fun cdv A outer s H E hr tk => ?_) law
  exact (vs_cons (vs_expr (ve_calR F_check_persons hr tk (by rfl) (va_cons (ve_var (pv 0)) (va_cons (ve_var (pv 1)) (va_cons (ve_var (pv 2)) va_nil)))))
      (vs_cons (vs_asg (i := 3) sc_met_by.nd rfl (.inl rfl) (VN.toE (vn_make F_Limits_init hr tk (by rfl) (va_cons (ve_var (pv 0)) (va_cons (ve_var (pv 1)) va_nil)))))
      (vs_one (vs_ret (ve_tup (va_cons (ve_meth F_Limits_met hr tk (ve_var (pv 3)) (va_cons (ve_var (pv 2)) (va_cons (ve_gstr (by rfl) c_ALWAYS) va_nil))) (va_cons (ve_meth F_Limits_met hr tk (ve_var (pv 3)) (va_cons (ve_var (pv 2)) (va_cons (ve_gstr (by rfl) c_SOMETIMES) va_nil))) va_nil)))))))
abbrev s_word_with : Stmt := topS 11
abbrev N_word_with : List Str := ["counts", "parts", "before", "count"]
theorem sc_word_with : FnScope N_word_with ["counts"] (defScope s_word_with) := ⟨rfl, rfl, rfl, by decide +kernel, rfl, by decide +kernel, by decide +kernel⟩
theorem w_word_with {S : SV} (F : Fun K "word_with" "word_with" s_word_with f fd) (c_SERVICE : ∃ t, mg "SERVICE" = some (.str "s" t)) (c_ARRIVAL : ∃ t, mg "ARRIVAL" = some (.str "a" t)) (n_len : mg "len" = none) (hlen : ∀ ds Q E, S ds Q E → ds.length = 1)
    (law : ∀ ds Q E, S ds Q E → t_word_with (envOf 4 ds) (fin Q E)) : FnOk P w K mg base (L2.CX P w) 1 f fd ["counts"] (spV b S) := by
  refine fnV F sc_word_with hlen (by decide) (fun cdv A outer s H E hr tk => ?_) law
  exact (vs_cons (vs_par2 (i := 1) (j := 2) rfl sc_word_with.nd rfl rfl (by decide) rfl rfl (vm_nw (vn_lst va_nil) (vm_sh ve_int vm_nil)) (by rfl))
      (vs_cons (vs_for (passes_of rfl) rfl (vi_src (ve_var (pv 0))) (vg_name (i := 3) sc_word_with.nd rfl (.inl rfl))
      (vs_cons (vs_app (pv 1) (va_cons (ve_add (VE.toX (ve_mulA (VE.toX (ve_gstr (by rfl) c_SERVICE)) (VE.toX (ve_sub (vx_var (pv 3)) (vx_var (pv 2)))))) (VE.toX (ve_gstr (by rfl) c_ARRIVAL))) va_nil))
      (vs_one (vs_asg (i := 2) sc_word_with.nd rfl (.inl rfl) (ve_var (pv 3))))))
      (vs_one (vs_ret (ve_add (VE.toX (ve_mth mx_join (VE.toX ve_str) (vxs_cons (vx_var (pv 1)) vxs_nil))) (VE.toX (ve_mulA (VE.toX (ve_gstr (by rfl) c_SERVICE)) (VE.toX (ve_sub (VE.toX (ve_len (by rfl) n_len (vxs_cons (vx_var (pv 0)) vxs_nil))) (vx_var (pv 2)))))))))))
abbrev s_is_number : Stmt := topS 30
abbrev N_is_number : List Str := ["value", "low", "high"]
theorem sc_is_number : FnScope N_is_number ["value", "low", "high"] (defScope s_is_number) := ⟨rfl, rfl, rfl, by decide +kernel, rfl, by decide +kernel, by decide +kernel⟩
theorem w_is_number {S : SV} (F : Fun K "is_number" "is_number" s_is_number f fd) (n_isinstance : mg "isinstance" = none) (n_bool : mg "bool" = none) (n_int : mg "int" = none) (hlen : ∀ ds Q E, S ds Q E → ds.length = 3)
    (law : ∀ ds Q E, S ds Q E → t_is_number (envOf 3 ds) (fin Q E)) : FnOk P w K mg base (L2.CX P w) 1 f fd ["value", "low", "high"] (spV b S) := by
  refine fnV F sc_is_number hlen (by decide) (fun cdv A outer s H E hr tk => ?_) law
  exact (vs_one (vs_ret (ve_and (VE.toX (ve_isi (by rfl) n_isinstance (vxs_cons (vx_var (pv 0)) (vxs_cons (VE.toX (ve_tyInt (by rfl) n_int)) vxs_nil)))) (ve_and (VE.toX (ve_not (VE.toX (ve_isi (by rfl) n_isinstance (vxs_cons (vx_var (pv 0)) (vxs_cons (VE.toX (ve_tyBool (by rfl) n_bool)) vxs_nil)))))) (ve_one (ve_le2 (vx_var (pv 1)) (vx_var (pv 0)) (vx_var (pv 2))))))))
abbrev s_is_order : Stmt := topS 31
abbrev N_is_order : List Str := ["row", "value", "person"]
theorem sc_is_order : FnScope N_is_order ["row", "value"] (defScope s_is_order) := ⟨rfl, rfl, rfl, by decide +kernel, rfl, by decide +kernel, by decide +kernel⟩
theorem w_is_order {S : SV} {S_is_number : SV} (F : Fun K "is_order" "is_order" s_is_order f fd) (F_is_number : Cal P w K mg base b 1 "is_number" ["value", "low", "high"] S_is_number) (n_isinstance : mg "isinstance" = none) (n_tuple : mg "tuple" = none) (n_len : mg "len" = none) (n_set : mg "set" = none) (n_all : mg "all" = none) (hlen : ∀ ds Q E, S ds Q E → ds.length = 2)
    (law : ∀ ds Q E, S ds Q E → t_is_order S_is_number (envOf 3 ds) (fin Q E)) : FnOk P w K mg base (L2.CX P w) 2 f fd ["row", "value"] (spV b S) := by
  refine fnV F sc_is_order hlen (by decide) (fun cdv A outer s H E hr tk => ?_) law
  have hu := hr.units
  exact (vs_cons (vs_if (VWe.pt (vw_or (vt_not (vt_val (VE.toX (ve_isi (by rfl) n_isinstance (vxs_cons (vx_var (pv 1)) (vxs_cons (VE.toX (ve_tyTuple (by rfl) n_tuple)) vxs_nil)))))) (vw_or1 (vt_ne hu (VE.toX (ve_len (by rfl) n_len (vxs_cons (vx_var (pv 1)) vxs_nil))) (VE.toX (ve_len (by rfl) n_len (vxs_cons (vx_var (pv 0)) vxs_nil)))))))
      (vs_one (vs_ret ve_bl))
      vs_nil)
      (vs_one (vs_ret (ve_and (VE.toX (ve_all rfl (by rfl) n_all (vxs_cons (VN.toX (vn_lc (own := [("person", 2)]) rfl sc_is_order.nd (vib_src (vx_var (pv 1))) (blkOk_by (N := N_is_order) (sc := defScope s_is_order) (by decide +kernel)) (by decide) (fun _ _ _ _ _ => (vg_name (i := 2) sc_is_order.nd rfl (.inl rfl))) (fun _ _ _ _ _ => vts_nil) (fun _ _ _ _ _ => (ve_cal F_is_number hr takes0 (by rfl) (va_cons (ve_var (pv 2)) (va_cons ve_int (va_cons (ve_sub (VE.toX (ve_len (by rfl) n_len (vxs_cons (vx_var (pv 0)) vxs_nil))) (VE.toX ve_int)) va_nil))))))) vxs_nil))) (ve_one (ve_eq hu (VE.toX (ve_lenSet rfl (by rfl) n_len (by rfl) n_set (vx_var (pv 1)))) (VE.toX (ve_len (by rfl) n_len (vxs_cons (vx_var (pv 0)) vxs_nil)))))))))
abbrev s_require_order : Stmt := topS 32
abbrev N_require_order : List Str := ["row", "value"]
theorem sc_require_order : FnScope N_require_order ["row", "value"] (defScope s_require_order) := ⟨rfl, rfl, rfl, by decide +kernel, rfl, by decide +kernel, by decide +kernel⟩
theorem w_require_order {S : SV} {S_is_order : SV} (F : Fun K "require_order" "require_order" s_require_order f fd) (F_is_order : Cal P w K mg base b 2 "is_order" ["row", "value"] S_is_order) (M_NoOrder : Mk0 K mg b "NoOrder") (hlen : ∀ ds Q E, S ds Q E → ds.length = 2)
    (law : ∀ ds Q E, S ds Q E → t_require_order S_is_order (envOf 2 ds) (fin Q E)) : FnOk P w K mg base (L2.CX P w) 3 f fd ["row", "value"] (spV b S) := by
  refine fnV F sc_require_order hlen (by decide) (fun cdv A outer s H E hr tk => ?_) law
  exact (vs_one (vs_if (vt_not (vt_val (VE.toX (ve_cal F_is_order hr tk (by rfl) (va_cons (ve_var (pv 0)) (va_cons (ve_var (pv 1)) va_nil))))))
      (vs_one (vs_raise0 M_NoOrder rfl tk (by rfl)))
      vs_nil))
abbrev s_places_in : Stmt := topS 33
abbrev N_places_in : List Str := ["order", "found", "place", "person"]
theorem sc_places_in : FnScope N_places_in ["order"] (defScope s_places_in) := ⟨rfl, rfl, rfl, by decide +kernel, rfl, by decide +kernel, by decide +kernel⟩
theorem w_places_in {S : SV} (F : Fun K "places_in" "places_in" s_places_in f fd) (n_len : mg "len" = none) (n_enumerate : mg "enumerate" = none) (hlen : ∀ ds Q E, S ds Q E → ds.length = 1)
    (law : ∀ ds Q E, S ds Q E → t_places_in (envOf 4 ds) (fin Q E)) : FnOk P w K mg base (L2.CX P w) 1 f fd ["order"] (spV b S) := by
  refine fnV F sc_places_in hlen (by decide) (fun cdv A outer s H E hr tk => ?_) law
  exact (vs_cons (vs_asgN (i := 1) sc_places_in.nd rfl (.inl rfl) (vn_mul (VN.toX (vn_lst (va_cons ve_int va_nil))) (VE.toX (ve_len (by rfl) n_len (vxs_cons (vx_var (pv 0)) vxs_nil)))))
      (vs_cons (vs_for (passes_of rfl) rfl (vi_enum (by rfl) n_enumerate (va_cons (ve_var (pv 0)) va_nil)) (vg_tup rfl (vgs_cons (vg_name (i := 2) sc_places_in.nd rfl (.inl rfl)) (vgs_cons (vg_name (i := 3) sc_places_in.nd rfl (.inl rfl)) vgs_nil)))
      (vs_one (vs_stoL (pv 1) (ve_var (pv 3)) (ve_var (pv 2)))))
      (vs_one (vs_frz 1 (vs_ret (ve_var (pv 1)))))))
abbrev s_kind_of : Stmt := topS 35
abbrev N_kind_of : List Str := ["is_near", "is_ahead"]
theorem sc_kind_of : FnScope N_kind_of ["is_near", "is_ahead"] (defScope s_kind_of) := ⟨rfl, rfl, rfl, by decide +kernel, rfl, by decide +kernel, by decide +kernel⟩
theorem w_kind_of {S : SV} (F : Fun K "kind_of" "kind_of" s_kind_of f fd) (c_BOTH : ∃ t, mg "BOTH" = some (.str "both" t)) (c_NEAR : ∃ t, mg "NEAR" = some (.str "near" t)) (c_LEADS : ∃ t, mg "LEADS" = some (.str "leads" t)) (c_NONE : ∃ t, mg "NONE" = some (.str "none" t)) (hlen : ∀ ds Q E, S ds Q E → ds.length = 2)
    (law : ∀ ds Q E, S ds Q E → t_kind_of (envOf 2 ds) (fin Q E)) : FnOk P w K mg base (L2.CX P w) 1 f fd ["is_near", "is_ahead"] (spV b S) := by
  refine fnV F sc_kind_of hlen (by decide) (fun cdv A outer s H E hr tk => ?_) law
  exact (vs_cons (vs_if (vt_val (vx_var (pv 0)))
      (vs_one (vs_ret (ve_if (vt_val (vx_var (pv 1))) (ve_gstr (by rfl) c_BOTH) (ve_gstr (by rfl) c_NEAR))))
      vs_nil)
      (vs_one (vs_ret (ve_if (vt_val (vx_var (pv 1))) (ve_gstr (by rfl) c_LEADS) (ve_gstr (by rfl) c_NONE)))))
abbrev s_kinds_of : Stmt := topS 36
abbrev N_kinds_of : List Str := ["row", "order", "places", "found", "last", "place", "mate", "is_near"]
theorem sc_kinds_of : FnScope N_kinds_of ["row", "order"] (defScope s_kinds_of) := ⟨rfl, rfl, rfl, by decide +kernel, rfl, by decide +kernel, by decide +kernel⟩
theorem w_kinds_of {S : SV} {S_require_order : SV} {S_places_in : SV} {S_mates : SV} {S_kind_of : SV} (F : Fun K "kinds_of" "kinds_of" s_kinds_of f fd) (F_require_order : Cal P w K mg base b 3 "require_order" ["row", "value"] S_require_order) (F_places_in : Cal P w K mg base b 1 "places_in_orders" ["order"] S_places_in) (F_mates : Cal P w K mg base b 1 "mates" ["row"] S_mates) (F_kind_of : Cal P w K mg base b 1 "kind_of" ["is_near", "is_ahead"] S_kind_of) (n_zip : mg "zip" = none) (n_max : mg "max" = none) (n_tuple : mg "tuple" = none) (hlen : ∀ ds Q E, S ds Q E → ds.length = 2)
    (law : ∀ ds Q E, S ds Q E → t_kinds_of S_require_order S_places_in S_mates S_kind_of (envOf 8 ds) (fin Q E)) : FnOk P w K mg base (L2.CX P w) 4 f fd ["row", "order"] (spV b S) := by
  refine fnV F sc_kinds_of hlen (by decide) (fun cdv A outer s H E hr tk => ?_) law
  have hu := hr.units
  exact (vs_cons (vs_expr (ve_cal F_require_order hr tk (by rfl) (va_cons (ve_var (pv 0)) (va_cons (ve_var (pv 1)) va_nil))))
      (vs_cons (vs_par3 (i := 2) (j := 3) (k := 4) rfl sc_kinds_of.nd rfl rfl rfl (by decide) (by decide) (by decide) rfl rfl rfl (vm_sh (ve_cal F_places_in hr tk (by rfl) (va_cons (ve_var (pv 1)) va_nil)) (vm_nw (vn_lst va_nil) (vm_sh (ve_neg (VE.toX ve_int)) vm_nil))) (by rfl))
      (vs_cons (vs_for (passes_of rfl) rfl (vi_zip2 (by rfl) n_zip (va_cons (ve_var (pv 2)) (va_cons (ve_cal F_mates hr tk (by rfl) (va_cons (ve_var (pv 0)) va_nil)) va_nil))) (vg_tup rfl (vgs_cons (vg_name (i := 5) sc_kinds_of.nd rfl (.inl rfl)) (vgs_cons (vg_name (i := 6) sc_kinds_of.nd rfl (.inl rfl)) vgs_nil)))
      (vs_cons (vs_asg (i := 7) sc_kinds_of.nd rfl (.inl rfl) (ve_and (VE.toX (ve_notN (vx_var (pv 6)) (VE.toX ve_non))) (ve_one (ve_eq hu (vx_var (pv 5)) (VE.toX (ve_add (VE.toX (ve_ix (vx_var (pv 2)) (vx_var (pv 6)))) (VE.toX ve_int)))))))
      (vs_cons (vs_app (pv 3) (va_cons (ve_cal F_kind_of hr tk (by rfl) (va_cons (ve_var (pv 7)) (va_cons (ve_gt (vx_var (pv 5)) (vx_var (pv 4))) va_nil))) va_nil))
      (vs_one (vs_asg (i := 4) sc_kinds_of.nd rfl (.inl rfl) (ve_max rfl (by rfl) n_max (vxs_cons (vx_var (pv 4)) (vxs_cons (vx_var (pv 5)) vxs_nil))))))))
      (vs_one (vs_ret (ve_tupleC (by rfl) n_tuple (vxs_cons (vx_var (pv 3)) vxs_nil)))))))
abbrev s_misplaced : Stmt := topS 37
abbrev N_misplaced : List Str := ["row", "order", "person", "kind"]
theorem sc_misplaced : FnScope N_misplaced ["row", "order"] (defScope s_misplaced) := ⟨rfl, rfl, rfl, by decide +kernel, rfl, by decide +kernel, by decide +kernel⟩
theorem w_misplaced {S : SV} {S_kinds_of : SV} (F : Fun K "misplaced" "misplaced" s_misplaced f fd) (F_kinds_of : Cal P w K mg base b 4 "kinds_of" ["row", "order"] S_kinds_of) (c_NONE : ∃ t, mg "NONE" = some (.str "none" t)) (n_tuple : mg "tuple" = none) (n_enumerate : mg "enumerate" = none) (hlen : ∀ ds Q E, S ds Q E → ds.length = 2)
    (law : ∀ ds Q E, S ds Q E → t_misplaced S_kinds_of (envOf 4 ds) (fin Q E)) : FnOk P w K mg base (L2.CX P w) 5 f fd ["row", "order"] (spV b S) := by
  refine fnV F sc_misplaced hlen (by decide) (fun cdv A outer s H E hr tk => ?_) law
  have hu := hr.units
  exact (vs_one (vs_ret (ve_tupleC (by rfl) n_tuple (vxs_cons (VN.toX (vn_lc (own := [("person", 2), ("kind", 3)]) rfl sc_misplaced.nd (vib_enum (by rfl) n_enumerate (vxs_cons (VE.toX (ve_cal F_kinds_of hr tk (by rfl) (va_cons (ve_var (pv 0)) (va_cons (ve_var (pv 1)) va_nil)))) vxs_nil)) (blkOk_by (N := N_misplaced) (sc := defScope s_misplaced) (by decide +kernel)) (by decide) (fun _ _ _ _ _ => (vg_tup rfl (vgs_cons (vg_name (i := 2) sc_misplaced.nd rfl (.inl rfl)) (vgs_cons (vg_name (i := 3) sc_misplaced.nd rfl (.inl rfl)) vgs_nil)))) (fun _ _ _ _ _ => (vts_one (vt_eq hu (vx_var (pv 3)) (VE.toX (ve_gstr (by rfl) c_NONE))))) (fun _ _ _ _ _ => (ve_var (pv 2))))) vxs_nil))))
abbrev s_least_counts : Stmt := topS 38
abbrev N_least_counts : List Str := ["row", "order", "kinds", "places", "found", "kind", "mate"]
theorem sc_least_counts : FnScope N_least_counts ["row", "order"] (defScope s_least_counts) := ⟨rfl, rfl, rfl, by decide +kernel, rfl, by decide +kernel, by decide +kernel⟩
theorem w_least_counts {S : SV} {S_places_in : SV} {S_kinds_of : SV} {S_mates : SV} (F : Fun K "least_counts" "least_counts" s_least_counts f fd) (F_places_in : Cal P w K mg base b 1 "places_in_orders" ["order"] S_places_in) (F_kinds_of : Cal P w K mg base b 4 "kinds_of" ["row", "order"] S_kinds_of) (F_mates : Cal P w K mg base b 1 "mates" ["row"] S_mates) (c_LEADS : ∃ t, mg "LEADS" = some (.str "leads" t)) (n_zip : mg "zip" = none) (hlen : ∀ ds Q E, S ds Q E → ds.length = 2)
    (law : ∀ ds Q E, S ds Q E → t_least_counts S_places_in S_kinds_of S_mates (envOf 7 ds) (fin Q E)) : FnOk P w K mg base (L2.CX P w) 5 f fd ["row", "order"] (spV b S) := by
  refine fnV F sc_least_counts hlen (by decide) (fun cdv A outer s H E hr tk => ?_) law
  have hu := hr.units
  exact (vs_cons (vs_par3 (i := 2) (j := 3) (k := 4) rfl sc_least_counts.nd rfl rfl rfl (by decide) (by decide) (by decide) rfl rfl rfl (vm_sh (ve_cal F_kinds_of hr tk (by rfl) (va_cons (ve_var (pv 0)) (va_cons (ve_var (pv 1)) va_nil))) (vm_sh (ve_cal F_places_in hr tk (by rfl) (va_cons (ve_var (pv 1)) va_nil)) (vm_nw (vn_lst va_nil) vm_nil))) (by rfl))
      (vs_cons (vs_for (passes_of rfl) rfl (vi_zip2 (by rfl) n_zip (va_cons (ve_var (pv 2)) (va_cons (ve_cal F_mates hr tk (by rfl) (va_cons (ve_var (pv 0)) va_nil)) va_nil))) (vg_tup rfl (vgs_cons (vg_name (i := 5) sc_least_counts.nd rfl (.inl rfl)) (vgs_cons (vg_name (i := 6) sc_least_counts.nd rfl (.inl rfl)) vgs_nil)))
      (vs_one (vs_app (pv 4) (va_cons (ve_if (VWe.pt (vw_and (vt_eq hu (vx_var (pv 5)) (VE.toX (ve_gstr (by rfl) c_LEADS))) (vw_and1 (vt_notN (vx_var (pv 6)) (VE.toX ve_non))))) (ve_add (VE.toX (ve_ix (vx_var (pv 3)) (vx_var (pv 6)))) (VE.toX ve_int)) ve_int) va_nil))))
      (vs_one (vs_frz 4 (vs_ret (ve_var (pv 4)))))))
abbrev s_greatest_counts : Stmt := topS 39
abbrev N_greatest_counts : List Str := ["row", "order", "kinds", "places", "found", "kind", "mate", "place"]
theorem sc_greatest_counts : FnScope N_greatest_counts ["row", "order"] (defScope s_greatest_counts) := ⟨rfl, rfl, rfl, by decide +kernel, rfl, by decide +kernel, by decide +kernel⟩
theorem w_greatest_counts {S : SV} {S_places_in : SV} {S_kinds_of : SV} {S_mates : SV} (F : Fun K "greatest_counts" "greatest_counts" s_greatest_counts f fd) (F_places_in : Cal P w K mg base b 1 "places_in_orders" ["order"] S_places_in) (F_kinds_of : Cal P w K mg base b 4 "kinds_of" ["row", "order"] S_kinds_of) (F_mates : Cal P w K mg base b 1 "mates" ["row"] S_mates) (c_NEAR : ∃ t, mg "NEAR" = some (.str "near" t)) (n_zip : mg "zip" = none) (hlen : ∀ ds Q E, S ds Q E → ds.length = 2)
    (law : ∀ ds Q E, S ds Q E → t_greatest_counts S_places_in S_kinds_of S_mates (envOf 8 ds) (fin Q E)) : FnOk P w K mg base (L2.CX P w) 5 f fd ["row", "order"] (spV b S) := by
  refine fnV F sc_greatest_counts hlen (by decide) (fun cdv A outer s H E hr tk => ?_) law
  have hu := hr.units
  exact (vs_cons (vs_par3 (i := 2) (j := 3) (k := 4) rfl sc_greatest_counts.nd rfl rfl rfl (by decide) (by decide) (by decide) rfl rfl rfl (vm_sh (ve_cal F_kinds_of hr tk (by rfl) (va_cons (ve_var (pv 0)) (va_cons (ve_var (pv 1)) va_nil))) (vm_sh (ve_cal F_places_in hr tk (by rfl) (va_cons (ve_var (pv 1)) va_nil)) (vm_nw (vn_lst va_nil) vm_nil))) (by rfl))
      (vs_cons (vs_for (passes_of rfl) rfl (vi_zip3 (by rfl) n_zip (va_cons (ve_var (pv 2)) (va_cons (ve_cal F_mates hr tk (by rfl) (va_cons (ve_var (pv 0)) va_nil)) (va_cons (ve_var (pv 3)) va_nil)))) (vg_tup rfl (vgs_cons (vg_name (i := 5) sc_greatest_counts.nd rfl (.inl rfl)) (vgs_cons (vg_name (i := 6) sc_greatest_counts.nd rfl (.inl rfl)) (vgs_cons (vg_name (i := 7) sc_greatest_counts.nd rfl (.inl rfl)) vgs_nil))))
      (vs_one (vs_app (pv 4) (va_cons (ve_if (vt_eq hu (vx_var (pv 5)) (VE.toX (ve_gstr (by rfl) c_NEAR))) (ve_ix (vx_var (pv 3)) (vx_var (pv 6))) (ve_var (pv 7))) va_nil))))
      (vs_one (vs_frz 4 (vs_ret (ve_var (pv 4)))))))
abbrev s_clashes : Stmt := topS 40
abbrev N_clashes : List Str := ["row", "order", "low", "high", "pairs", "one", "other"]
theorem sc_clashes : FnScope N_clashes ["row", "order"] (defScope s_clashes) := ⟨rfl, rfl, rfl, by decide +kernel, rfl, by decide +kernel, by decide +kernel⟩
theorem w_clashes {S : SV} {S_greatest_counts : SV} {S_least_counts : SV} (F : Fun K "clashes" "clashes" s_clashes f fd) (F_greatest_counts : Cal P w K mg base b 5 "greatest_counts" ["row", "order"] S_greatest_counts) (F_least_counts : Cal P w K mg base b 5 "least_counts" ["row", "order"] S_least_counts) (n_range : mg "range" = none) (n_len : mg "len" = none) (n_tuple : mg "tuple" = none) (hlen : ∀ ds Q E, S ds Q E → ds.length = 2)
    (law : ∀ ds Q E, S ds Q E → t_clashes S_greatest_counts S_least_counts (envOf 7 ds) (fin Q E)) : FnOk P w K mg base (L2.CX P w) 6 f fd ["row", "order"] (spV b S) := by
  refine fnV F sc_clashes hlen (by decide) (fun cdv A outer s H E hr tk => ?_) law
  exact (vs_cons (vs_parT (is := [2, 3]) rfl (pgs_cons (pg_name (i := 2) sc_clashes.nd rfl (.inr rfl)) (pgs_cons (pg_name (i := 3) sc_clashes.nd rfl (.inr rfl)) pgs_nil)) (vm_sh (ve_cal F_least_counts hr tk (by rfl) (va_cons (ve_var (pv 0)) (va_cons (ve_var (pv 1)) va_nil))) (vm_sh (ve_cal F_greatest_counts hr tk (by rfl) (va_cons (ve_var (pv 0)) (va_cons (ve_var (pv 1)) va_nil))) vm_nil)))
      (vs_cons (vs_asgN (i := 4) sc_clashes.nd rfl (.inl rfl) (vn_lst va_nil))
      (vs_cons (vs_for (passes_of rfl) rfl (vi_range1 (by rfl) n_range (vxs_cons (VE.toX (ve_len (by rfl) n_len (vxs_cons (vx_var (pv 0)) vxs_nil))) vxs_nil)) (vg_name (i := 5) sc_clashes.nd rfl (.inr rfl))
      (vs_one (vs_ext (pv 4) (va_cons (VN.toE (vn_lc (own := [("other", 6)]) rfl sc_clashes.nd (vib_range2 (by rfl) n_range (vxs_cons (VE.toX (ve_add (vx_var (pv 5)) (VE.toX ve_int))) (vxs_cons (VE.toX (ve_len (by rfl) n_len (vxs_cons (vx_var (pv 0)) vxs_nil))) vxs_nil))) (blkOk_by (N := N_clashes) (sc := defScope s_clashes) (by decide +kernel)) (by decide) (fun _ _ _ _ _ => (vg_name (i := 6) sc_clashes.nd rfl (.inl rfl))) (fun _ _ _ _ _ => (vts_one (vt_gt (VE.toX (ve_ix (vx_var (pv 2)) (vx_var (pv 5)))) (VE.toX (ve_ix (vx_var (pv 3)) (vx_var (pv 6))))))) (fun _ _ _ _ _ => (ve_tup (va_cons (ve_var (pv 5)) (va_cons (ve_var (pv 6)) va_nil)))))) va_nil))))
      (vs_one (vs_ret (ve_tupleC (by rfl) n_tuple (vxs_cons (vx_var (pv 4)) vxs_nil)))))))
abbrev s_is_possible : Stmt := topS 41
abbrev N_is_possible : List Str := ["row", "order"]
theorem sc_is_possible : FnScope N_is_possible ["row", "order"] (defScope s_is_possible) := ⟨rfl, rfl, rfl, by decide +kernel, rfl, by decide +kernel, by decide +kernel⟩
theorem w_is_possible {S : SV} {S_clashes : SV} {S_misplaced : SV} (F : Fun K "is_possible" "is_possible" s_is_possible f fd) (F_clashes : Cal P w K mg base b 6 "clashes" ["row", "order"] S_clashes) (F_misplaced : Cal P w K mg base b 5 "misplaced" ["row", "order"] S_misplaced) (hlen : ∀ ds Q E, S ds Q E → ds.length = 2)
    (law : ∀ ds Q E, S ds Q E → t_is_possible S_clashes S_misplaced (envOf 2 ds) (fin Q E)) : FnOk P w K mg base (L2.CX P w) 7 f fd ["row", "order"] (spV b S) := by
  refine fnV F sc_is_possible hlen (by decide) (fun cdv A outer s H E hr tk => ?_) law
  have hu := hr.units
  exact (vs_one (vs_ret (ve_and (VE.toX (ve_eq hu (VE.toX (ve_cal F_misplaced hr tk (by rfl) (va_cons (ve_var (pv 0)) (va_cons (ve_var (pv 1)) va_nil)))) (VE.toX (ve_tup va_nil)))) (ve_one (ve_eq hu (VE.toX (ve_cal F_clashes hr tk (by rfl) (va_cons (ve_var (pv 0)) (va_cons (ve_var (pv 1)) va_nil)))) (VE.toX (ve_tup va_nil)))))))
abbrev s_stairs : Stmt := topS 42
abbrev N_stairs : List Str := ["row", "order", "low", "high", "lows", "person"]
theorem sc_stairs : FnScope N_stairs ["row", "order"] (defScope s_stairs) := ⟨rfl, rfl, rfl, by decide +kernel, rfl, by decide +kernel, by decide +kernel⟩
theorem w_stairs {S : SV} {S_greatest_counts : SV} {S_least_counts : SV} (F : Fun K "stairs" "stairs" s_stairs f fd) (F_greatest_counts : Cal P w K mg base b 5 "greatest_counts" ["row", "order"] S_greatest_counts) (F_least_counts : Cal P w K mg base b 5 "least_counts" ["row", "order"] S_least_counts) (n_tuple : mg "tuple" = none) (n_range : mg "range" = none) (n_len : mg "len" = none) (n_max : mg "max" = none) (n_min : mg "min" = none) (hlen : ∀ ds Q E, S ds Q E → ds.length = 2)
    (law : ∀ ds Q E, S ds Q E → t_stairs S_greatest_counts S_least_counts (envOf 6 ds) (fin Q E)) : FnOk P w K mg base (L2.CX P w) 6 f fd ["row", "order"] (spV b S) := by
  refine fnV F sc_stairs hlen (by decide) (fun cdv A outer s H E hr tk => ?_) law
  exact (vs_cons (vs_parT (is := [2, 3]) rfl (pgs_cons (pg_name (i := 2) sc_stairs.nd rfl (.inr rfl)) (pgs_cons (pg_name (i := 3) sc_stairs.nd rfl (.inr rfl)) pgs_nil)) (vm_sh (ve_cal F_least_counts hr tk (by rfl) (va_cons (ve_var (pv 0)) (va_cons (ve_var (pv 1)) va_nil))) (vm_sh (ve_cal F_greatest_counts hr tk (by rfl) (va_cons (ve_var (pv 0)) (va_cons (ve_var (pv 1)) va_nil))) vm_nil)))
      (vs_cons (vs_asg (i := 4) sc_stairs.nd rfl (.inl rfl) (ve_tupleC (by rfl) n_tuple (vxs_cons (VN.toX (vn_lc (own := [("person", 5)]) rfl sc_stairs.nd (vib_range1 (by rfl) n_range (vxs_cons (VE.toX (ve_len (by rfl) n_len (vxs_cons (vx_var (pv 2)) vxs_nil))) vxs_nil)) (blkOk_by (N := N_stairs) (sc := defScope s_stairs) (by decide +kernel)) (by decide) (fun _ _ _ _ _ => (vg_name (i := 5) sc_stairs.nd rfl (.inl rfl))) (fun _ _ _ _ _ => vts_nil) (fun _ _ _ _ _ => (ve_max rfl (by rfl) n_max (vxs_cons (VE.toX (ve_sl (vx_var (pv 2)) vo_no (vo_at (VE.toX (ve_add (vx_var (pv 5)) (VE.toX ve_int)))))) vxs_nil))))) vxs_nil)))
      (vs_one (vs_ret (ve_tup (va_cons (ve_var (pv 4)) (va_cons (ve_tupleC (by rfl) n_tuple (vxs_cons (VN.toX (vn_lc (own := [("person", 5)]) rfl sc_stairs.nd (vib_range1 (by rfl) n_range (vxs_cons (VE.toX (ve_len (by rfl) n_len (vxs_cons (vx_var (pv 3)) vxs_nil))) vxs_nil)) (blkOk_by (N := N_stairs) (sc := defScope s_stairs) (by decide +kernel)) (by decide) (fun _ _ _ _ _ => (vg_name (i := 5) sc_stairs.nd rfl (.inl rfl))) (fun _ _ _ _ _ => vts_nil) (fun _ _ _ _ _ => (ve_min rfl (by rfl) n_min (vxs_cons (VE.toX (ve_sl (vx_var (pv 3)) (vo_at (vx_var (pv 5))) vo_no)) vxs_nil))))) vxs_nil)) va_nil)))))))
abbrev s_bounds_of : Stmt := topS 43
abbrev N_bounds_of : List Str := ["row", "order"]
theorem sc_bounds_of : FnScope N_bounds_of ["row", "order"] (defScope s_bounds_of) := ⟨rfl, rfl, rfl, by decide +kernel, rfl, by decide +kernel, by decide +kernel⟩
theorem w_bounds_of {S : SV} {S_is_possible : SV} {S_stairs : SV} (F : Fun K "bounds_of" "bounds_of" s_bounds_of f fd) (F_is_possible : Cal P w K mg base b 7 "is_possible" ["row", "order"] S_is_possible) (F_stairs : Cal P w K mg base b 6 "stairs" ["row", "order"] S_stairs) (M_Impossible : Mk0 K mg b "Impossible") (hlen : ∀ ds Q E, S ds Q E → ds.length = 2)
    (law : ∀ ds Q E, S ds Q E → t_bounds_of S_is_possible S_stairs (envOf 2 ds) (fin Q E)) : FnOk P w K mg base (L2.CX P w) 8 f fd ["row", "order"] (spV b S) := by
  refine fnV F sc_bounds_of hlen (by decide) (fun cdv A outer s H E hr tk => ?_) law
  exact (vs_cons (vs_if (vt_not (vt_val (VE.toX (ve_cal F_is_possible hr tk (by rfl) (va_cons (ve_var (pv 0)) (va_cons (ve_var (pv 1)) va_nil))))))
      (vs_one (vs_raise0 M_Impossible rfl tk (by rfl)))
      vs_nil)
      (vs_one (vs_ret (ve_cal F_stairs hr tk (by rfl) (va_cons (ve_var (pv 0)) (va_cons (ve_var (pv 1)) va_nil))))))
abbrev s_Table_init : Stmt := clsDef (topS 45) 0
abbrev N_Table_init : List Str := ["self", "row", "order", "later", "low", "high", "own", "sofar", "count", "other", "many"]
theorem sc_Table_init : FnScope N_Table_init ["self", "row", "order"] (defScope s_Table_init) := ⟨rfl, rfl, rfl, by decide +kernel, rfl, by decide +kernel, by decide +kernel⟩
theorem w_Table_init {S : SI} {S_require_order : SV} {S_is_possible : SV} {S_bounds_of : SV} (F : Fun K "__init__" "Table.__init__" s_Table_init f fd) (F_require_order : Cal P w K mg base b 3 "require_order" ["row", "value"] S_require_order) (F_is_possible : Cal P w K mg base b 7 "is_possible" ["row", "order"] S_is_possible) (F_bounds_of : Cal P w K mg base b 8 "bounds_of" ["row", "order"] S_bounds_of) (n_len : mg "len" = none) (n_list : mg "list" = none) (n_zip : mg "zip" = none) (n_sum : mg "sum" = none) (n_range : mg "range" = none) (CL_Table : Cls K (b.cls "Table")) (NA_Table_lows : NoAttr K (b.cls "Table") "lows") (NA_Table_highs : NoAttr K (b.cls "Table") "highs") (NA_Table_numbers : NoAttr K (b.cls "Table") "numbers") (hlen : ∀ ds Q E, S ds Q E → ds.length + 1 = 3)
    (law : ∀ x ds Q E, S ds Q E → t_Table_init S_require_order S_is_possible S_bounds_of (envI x "Table" 11 ds) (finI x "Table" Q E)) : FnOk P w K mg base (L2.CX P w) 9 f fd ["self", "row", "order"] (spI b "Table" S) := by
  refine fnI F sc_Table_init hlen (by decide) (fun cdv A outer s H E hr tk => ?_) law
  exact (vs_cons (vs_expr (ve_cal F_require_order hr tk (by rfl) (va_cons (ve_var (pv 1)) (va_cons (ve_var (pv 2)) va_nil))))
      (vs_cons (vs_fld2 rfl CL_Table NA_Table_lows NA_Table_highs (pv 0) (pv 0) (ve_if (vt_val (VE.toX (ve_cal F_is_possible hr tk (by rfl) (va_cons (ve_var (pv 1)) (va_cons (ve_var (pv 2)) va_nil))))) (ve_cal F_bounds_of hr tk (by rfl) (va_cons (ve_var (pv 1)) (va_cons (ve_var (pv 2)) va_nil))) (ve_tup (va_cons (ve_tup va_nil) (va_cons (ve_tup va_nil) va_nil)))))
      (vs_cons (vs_fld CL_Table NA_Table_numbers (pv 0) (VN.toE (vn_lst va_nil)))
      (vs_cons (vs_asg (i := 3) sc_Table_init.nd rfl (.inl rfl) (VN.toE (vn_dictI (ve_len (by rfl) n_len (vxs_cons (vx_var (pv 1)) vxs_nil)))))
      (vs_one (vs_for (passes_of rfl) rfl (vi_src (ve_backA (VN.toX (vn_lstZ rfl (by rfl) n_list (by rfl) n_zip (va_cons (ve_fld CL_Table NA_Table_lows (vx_var (pv 0))) (va_cons (ve_fld CL_Table NA_Table_highs (vx_var (pv 0))) va_nil)) (na := by rfl))) (vo_at (VE.toX (ve_neg (VE.toX ve_int)))))) (vg_tup rfl (vgs_cons (vg_name (i := 4) sc_Table_init.nd rfl (.inl rfl)) (vgs_cons (vg_name (i := 5) sc_Table_init.nd rfl (.inr rfl)) vgs_nil)))
      (vs_cons (vs_par2 (i := 6) (j := 7) rfl sc_Table_init.nd rfl rfl (by decide) rfl rfl (vm_nw vn_dict0 (vm_sh (ve_sum rfl (by rfl) n_sum (vxs_cons (VN.toX (vn_lock 3 (vn_lc (own := [("other", 9), ("many", 10)]) rfl sc_Table_init.nd (vib_items (pv 3)) (blkOk_by (N := N_Table_init) (sc := defScope s_Table_init) (by decide +kernel)) (by decide) (fun _ _ _ _ _ => (vg_tup rfl (vgs_cons (vg_name (i := 9) sc_Table_init.nd rfl (.inl rfl)) (vgs_cons (vg_name (i := 10) sc_Table_init.nd rfl (.inl rfl)) vgs_nil)))) (fun _ _ _ _ _ => (vts_one (vt_gt (vx_var (pv 9)) (vx_var (pv 5))))) (fun _ _ _ _ _ => (ve_var (pv 10)))))) vxs_nil)) vm_nil)) (by rfl))
      (vs_cons (vs_for (passes_of rfl) rfl (vi_range3 (by rfl) n_range (vxs_cons (vx_var (pv 5)) (vxs_cons (VE.toX (ve_sub (vx_var (pv 4)) (VE.toX ve_int))) (vxs_cons (VE.toX (ve_neg (VE.toX ve_int))) vxs_nil)))) (vg_name (i := 8) sc_Table_init.nd rfl (.inl rfl))
      (vs_cons (vs_augAdd (i := 7) sc_Table_init.nd rfl (.inl rfl) (ve_dget2 (hu_of hr) (vx_var (pv 3)) (ve_var (pv 8)) ve_int ⟨rfl, rfl, rfl, rfl⟩))
      (vs_one (vs_dputO (hu_of hr) (pv 6) (ve_var (pv 8)) (ve_var (pv 7))))))
      (vs_cons (vs_frz 6 (vs_fld CL_Table NA_Table_numbers (pv 0) (VN.toE (vn_lst (va_cons (ve_var (pv 6)) (va_star (ve_fld CL_Table NA_Table_numbers (vx_var (pv 0))) va_nil))))))
      (vs_one (vs_frz 6 (vs_asg (i := 3) sc_Table_init.nd rfl (.inl rfl) (ve_var (pv 6))))))))))))))
abbrev s_earliest : Stmt := topS 46
abbrev N_earliest : List Str := ["row", "order", "table"]
theorem sc_earliest : FnScope N_earliest ["row", "order"] (defScope s_earliest) := ⟨rfl, rfl, rfl, by decide +kernel, rfl, by decide +kernel, by decide +kernel⟩
theorem w_earliest {S : SV} {S_Table_init : SI} {S_word_with : SV} (F : Fun K "earliest" "earliest" s_earliest f fd) (F_Table_init : CalI P w K mg base b 9 "Table" ["self", "row", "order"] S_Table_init) (F_word_with : Cal P w K mg base b 1 "word_with" ["counts"] S_word_with) (CL_Table : Cls K (b.cls "Table")) (NA_Table_numbers : NoAttr K (b.cls "Table") "numbers") (NA_Table_highs : NoAttr K (b.cls "Table") "highs") (hlen : ∀ ds Q E, S ds Q E → ds.length = 2)
    (law : ∀ ds Q E, S ds Q E → t_earliest S_Table_init S_word_with (envOf 3 ds) (fin Q E)) : FnOk P w K mg base (L2.CX P w) 11 f fd ["row", "order"] (spV b S) := by
  refine fnV F sc_earliest hlen (by decide) (fun cdv A outer s H E hr tk => ?_) law
  have hu := hr.units
  exact (vs_cons (vs_asg (i := 2) sc_earliest.nd rfl (.inl rfl) (VN.toE (vn_make F_Table_init hr tk (by rfl) (va_cons (ve_var (pv 0)) (va_cons (ve_var (pv 1)) va_nil)))))
      (vs_one (vs_ret (ve_if (vt_ne hu (VE.toX (ve_fld CL_Table NA_Table_numbers (vx_var (pv 2)))) (VN.toX (vn_lst va_nil))) (ve_cal F_word_with hr tk (by rfl) (va_cons (ve_fld CL_Table NA_Table_highs (vx_var (pv 2))) va_nil)) ve_non))))
abbrev s_latest : Stmt := topS 47
abbrev N_latest : List Str := ["row", "order", "table"]
theorem sc_latest : FnScope N_latest ["row", "order"] (defScope s_latest) := ⟨rfl, rfl, rfl, by decide +kernel, rfl, by decide +kernel, by decide +kernel⟩
theorem w_latest {S : SV} {S_Table_init : SI} {S_word_with : SV} (F : Fun K "latest" "latest" s_latest f fd) (F_Table_init : CalI P w K mg base b 9 "Table" ["self", "row", "order"] S_Table_init) (F_word_with : Cal P w K mg base b 1 "word_with" ["counts"] S_word_with) (CL_Table : Cls K (b.cls "Table")) (NA_Table_numbers : NoAttr K (b.cls "Table") "numbers") (NA_Table_lows : NoAttr K (b.cls "Table") "lows") (hlen : ∀ ds Q E, S ds Q E → ds.length = 2)
    (law : ∀ ds Q E, S ds Q E → t_latest S_Table_init S_word_with (envOf 3 ds) (fin Q E)) : FnOk P w K mg base (L2.CX P w) 11 f fd ["row", "order"] (spV b S) := by
  refine fnV F sc_latest hlen (by decide) (fun cdv A outer s H E hr tk => ?_) law
  have hu := hr.units
  exact (vs_cons (vs_asg (i := 2) sc_latest.nd rfl (.inl rfl) (VN.toE (vn_make F_Table_init hr tk (by rfl) (va_cons (ve_var (pv 0)) (va_cons (ve_var (pv 1)) va_nil)))))
      (vs_one (vs_ret (ve_if (vt_ne hu (VE.toX (ve_fld CL_Table NA_Table_numbers (vx_var (pv 2)))) (VN.toX (vn_lst va_nil))) (ve_cal F_word_with hr tk (by rfl) (va_cons (ve_fld CL_Table NA_Table_lows (vx_var (pv 2))) va_nil)) ve_non))))
abbrev s_waiting_range : Stmt := topS 21
abbrev N_waiting_range : List Str := ["row", "order", "person", "found"]
theorem sc_waiting_range : FnScope N_waiting_range ["row", "order", "person"] (defScope s_waiting_range) := ⟨rfl, rfl, rfl, by decide +kernel, rfl, by decide +kernel, by decide +kernel⟩
theorem w_waiting_range {S : SV} {S_check_persons : SV} {S_Limits_init : SI} (F : Fun K "waiting_range" "waiting_range" s_waiting_range f fd) (F_check_persons : CalR P w K mg base b 3 "check_persons" (svStarN 2 S_check_persons)) (F_Limits_init : CalI P w K mg base b 3 "Limits" ["self", "row", "order"] S_Limits_init) (CL_Limits : Cls K (b.cls "Limits")) (NA_Limits_highs : NoAttr K (b.cls "Limits") "highs") (NA_Limits_lows : NoAttr K (b.cls "Limits") "lows") (hlen : ∀ ds Q E, S ds Q E → ds.length = 3)
    (law : ∀ ds Q E, S ds Q E → t_waiting_range S_check_persons S_Limits_init (envOf 4 ds) (fin Q E)) : FnOk P w K mg base (L2.CX P w) 5 f fd ["row", "order", "person"] (spV b S) := by
  refine fnV F sc_waiting_range hlen (by decide) (fun cdv A outer s H E hr tk => ?_) law
  exact (vs_cons (vs_expr (ve_calR F_check_persons hr tk (by rfl) (va_cons (ve_var (pv 0)) (va_cons (ve_var (pv 1)) (va_cons (ve_var (pv 2)) va_nil)))))
      (vs_cons (vs_asg (i := 3) sc_waiting_range.nd rfl (.inl rfl) (VN.toE (vn_make F_Limits_init hr tk (by rfl) (va_cons (ve_var (pv 0)) (va_cons (ve_var (pv 1)) va_nil)))))
      (vs_one (vs_ret (ve_tup (va_cons (ve_sub (vx_var (pv 2)) (VE.toX (ve_ix (VE.toX (ve_fld CL_Limits NA_Limits_highs (vx_var (pv 3)))) (vx_var (pv 2))))) (va_cons (ve_sub (vx_var (pv 2)) (VE.toX (ve_ix (VE.toX (ve_fld CL_Limits NA_Limits_lows (vx_var (pv 3)))) (vx_var (pv 2))))) va_nil)))))))
abbrev s_meets : Stmt := topS 22
abbrev N_meets : List Str := ["row", "order", "one", "other"]
theorem sc_meets : FnScope N_meets ["row", "order", "one", "other"] (defScope s_meets) := ⟨rfl, rfl, rfl, by decide +kernel, rfl, by decide +kernel, by decide +kernel⟩
theorem w_meets {S : SV} {S_check_persons : SV} {S_Limits_meeting : SV} {S_Limits_init : SI} (F : Fun K "meets" "meets" s_meets f fd) (F_check_persons : CalR P w K mg base b 3 "check_persons" (svStarN 2 S_check_persons)) (F_Limits_meeting : CalM P w K mg base b 1 "Limits" "meeting" ["self", "one", "other"] S_Limits_meeting) (F_Limits_init : CalI P w K mg base b 3 "Limits" ["self", "row", "order"] S_Limits_init) (hlen : ∀ ds Q E, S ds Q E → ds.length = 4)
    (law : ∀ ds Q E, S ds Q E → t_meets S_check_persons S_Limits_meeting S_Limits_init (envOf 4 ds) (fin Q E)) : FnOk P w K mg base (L2.CX P w) 5 f fd ["row", "order", "one", "other"] (spV b S) := by
  refine fnV F sc_meets hlen (by decide) (fun cdv A outer s H E hr tk => ?_) law
  exact (vs_cons (vs_expr (ve_calR F_check_persons hr tk (by rfl) (va_cons (ve_var (pv 0)) (va_cons (ve_var (pv 1)) (va_cons (ve_var (pv 2)) (va_cons (ve_var (pv 3)) va_nil))))))
      (vs_one (vs_ret (ve_meth F_Limits_meeting hr tk (VN.toE (vn_make F_Limits_init hr tk (by rfl) (va_cons (ve_var (pv 0)) (va_cons (ve_var (pv 1)) va_nil)))) (va_cons (ve_var (pv 2)) (va_cons (ve_var (pv 3)) va_nil))))))
abbrev s_law_right : Stmt := topS 58
abbrev N_law_right : List Str := ["_law_crank_here", "_law_row_here", "_law_word_here", "_law_order_here", "_law_many", "_law_always", "_law_sometimes", "_law_known", "_law_steps", "_law_few", "_law_all_of", "_law_person", "_law_sure", "_law_free", "_law_more", "_law_other", "_law_due", "_law_mate", "_law_joining", "_law_step"]
theorem sc_law_right : FnScope N_law_right ["_law_crank_here", "_law_row_here", "_law_word_here"] (defScope s_law_right) := ⟨rfl, rfl, rfl, by decide +kernel, rfl, by decide +kernel, by decide +kernel⟩
theorem w_law_right {S : SV} {S_c_order : SV} {S_joiners : SV} {S_c_play : SV} {S_mates : SV} {S_law_met : SV} {S_latest : SV} {S_earliest : SV} {S_law_wind : SV} {S_met_by : SV} {S_waiting_range : SV} {S_meets : SV} (F : Fun K "_law_right" "_law_right" s_law_right f fd) (F_c_order : Cal P w K mg base b 3 "_law_order" ["_law_row_here", "_law_word_here"] S_c_order) (F_joiners : Cal P w K mg base b 5 "joiners" ["row", "order"] S_joiners) (F_c_play : Cal P w K mg base b 2 "_law_play" ["_law_row_here", "_law_word_here"] S_c_play) (F_mates : Cal P w K mg base b 1 "mates" ["row"] S_mates) (F_law_met : Cal P w K mg base b 3 "_law_met" ["_law_row_here", "_law_word_here"] S_law_met) (F_latest : Cal P w K mg base b 11 "latest" ["row", "order"] S_latest) (F_earliest : Cal P w K mg base b 11 "earliest" ["row", "order"] S_earliest) (F_law_wind : Cal P w K mg base b 1 "_law_wind" ["_law_crank_here", "_law_many"] S_law_wind) (F_met_by : Cal P w K mg base b 5 "met_by" ["row", "order", "person"] S_met_by) (F_waiting_range : Cal P w K mg base b 5 "waiting_range" ["row", "order", "person"] S_waiting_range) (F_meets : Cal P w K mg base b 5 "meets" ["row", "order", "one", "other"] S_meets) (n_len : mg "len" = none) (n_list : mg "list" = none) (n_range : mg "range" = none) (n_tuple : mg "tuple" = none) (n_max : mg "max" = none) (n_int : mg "int" = none) (hlen : ∀ ds Q E, S ds Q E → ds.length = 3)
    (law : ∀ ds Q E, S ds Q E → t_law_right S_c_order S_joiners S_c_play S_mates S_law_met S_latest S_earliest S_law_wind S_met_by S_waiting_range S_meets (envOf 20 ds) (fin Q E)) : FnOk P w K mg base (L2.CX P w) 12 f fd ["_law_crank_here", "_law_row_here", "_law_word_here"] (spV b S) := by
  refine fnV F sc_law_right hlen (by decide) (fun cdv A outer s H E hr tk => ?_) law
  have hu := hr.units
  exact (vs_cons (vs_par2 (i := 3) (j := 4) rfl sc_law_right.nd rfl rfl (by decide) rfl rfl (vm_sh (ve_cal F_c_order hr tk (by rfl) (va_cons (ve_var (pv 1)) (va_cons (ve_var (pv 2)) va_nil))) (vm_sh (ve_len (by rfl) n_len (vxs_cons (vx_var (pv 1)) vxs_nil)) vm_nil)) (by rfl))
      (vs_cons (vs_asgT (ve_cal F_joiners hr tk (by rfl) (va_cons (ve_var (pv 1)) (va_cons (ve_var (pv 3)) va_nil))) (vg_tup rfl (vgs_cons (vg_name (i := 5) sc_law_right.nd rfl (.inr rfl)) (vgs_cons (vg_name (i := 6) sc_law_right.nd rfl (.inr rfl)) vgs_nil))))
      (vs_cons (vs_parT (is := [7, 8]) rfl (pgs_cons (pg_name (i := 7) sc_law_right.nd rfl (.inr rfl)) (pgs_cons (pg_name (i := 8) sc_law_right.nd rfl (.inl rfl)) pgs_nil)) (vm_sh (ve_cal F_mates hr tk (by rfl) (va_cons (ve_var (pv 1)) va_nil)) (vm_sh (ve_cal F_c_play hr tk (by rfl) (va_cons (ve_var (pv 1)) (va_cons (ve_var (pv 2)) va_nil))) vm_nil)))
      (vs_cons (vs_parT (is := [9, 10]) rfl (pgs_cons (pg_name (i := 9) sc_law_right.nd rfl (.inr rfl)) (pgs_cons (pg_name (i := 10) sc_law_right.nd rfl (.inl rfl)) pgs_nil)) (vm_sh (ve_cal F_law_met hr tk (by rfl) (va_cons (ve_var (pv 1)) (va_cons (ve_cal F_earliest hr tk (by rfl) (va_cons (ve_var (pv 1)) (va_cons (ve_var (pv 3)) va_nil))) va_nil))) (vm_sh (ve_cal F_law_met hr tk (by rfl) (va_cons (ve_var (pv 1)) (va_cons (ve_cal F_latest hr tk (by rfl) (va_cons (ve_var (pv 1)) (va_cons (ve_var (pv 3)) va_nil))) va_nil))) vm_nil)))
      (vs_cons (vs_for (passes_of rfl) rfl (vi_src (VN.toE (vn_step (VN.toX (vn_listRg rfl (by rfl) n_list (by rfl) n_range (vx_var (pv 4)))) (vo_at (VE.toX (ve_cal F_law_wind hr tk (by rfl) (va_cons (ve_var (pv 0)) (va_cons (ve_add (VE.toX ve_int) (VE.toX (ve_fdiv (vx_var (pv 4)) (VE.toX ve_int)))) va_nil))))) (vo_at (VE.toX (ve_add (VE.toX ve_int) (VE.toX (ve_fdiv (vx_var (pv 4)) (VE.toX ve_int))))))))) (vg_name (i := 11) sc_law_right.nd rfl (.inr rfl))
      (vs_cons (vs_asgT (ve_cal F_met_by hr tk (by rfl) (va_cons (ve_var (pv 1)) (va_cons (ve_var (pv 3)) (va_cons (ve_var (pv 11)) va_nil)))) (vg_tup rfl (vgs_cons (vg_name (i := 12) sc_law_right.nd rfl (.inl rfl)) (vgs_cons (vg_name (i := 13) sc_law_right.nd rfl (.inl rfl)) vgs_nil))))
      (vs_cons (vs_if (vt_ne hu (VE.toX (ve_cal F_waiting_range hr tk (by rfl) (va_cons (ve_var (pv 1)) (va_cons (ve_var (pv 3)) (va_cons (ve_var (pv 11)) va_nil))))) (VE.toX (ve_tup (va_cons (ve_len (by rfl) n_len (vxs_cons (vx_var (pv 12)) vxs_nil)) (va_cons (ve_add (VE.toX (ve_len (by rfl) n_len (vxs_cons (vx_var (pv 12)) vxs_nil))) (VE.toX (ve_len (by rfl) n_len (vxs_cons (vx_var (pv 13)) vxs_nil)))) va_nil)))))
      (vs_one (vs_ret ve_bl))
      vs_nil)
      (vs_cons (vs_asg (i := 14) sc_law_right.nd rfl (.inl rfl) (ve_tupleC (by rfl) n_tuple (vxs_cons (VN.toX (vn_lc (own := [("_law_other", 15)]) rfl sc_law_right.nd (vib_src (VE.toX (ve_ix (vx_var (pv 10)) (vx_var (pv 11))))) (blkOk_by (N := N_law_right) (sc := defScope s_law_right) (by decide +kernel)) (by decide) (fun _ _ _ _ _ => (vg_name (i := 15) sc_law_right.nd rfl (.inl rfl))) (fun _ _ _ _ _ => (vts_one (vt_notIn hu (vx_var (pv 15)) (VE.toX (ve_ix (vx_var (pv 9)) (vx_var (pv 11))))))) (fun _ _ _ _ _ => (ve_var (pv 15))))) vxs_nil)))
      (vs_cons (vs_if (VWe.pt (vw_or (vt_ne hu (vx_var (pv 12)) (VE.toX (ve_ix (vx_var (pv 9)) (vx_var (pv 11))))) (vw_or1 (vt_ne hu (vx_var (pv 13)) (vx_var (pv 14))))))
      (vs_one (vs_ret ve_bl))
      vs_nil)
      (vs_cons (vs_for (passes_of rfl) rfl (vi_src (VN.toE (vn_lst (va_cons (ve_cal F_law_wind hr tk (by rfl) (va_cons (ve_var (pv 0)) (va_cons (ve_var (pv 4)) va_nil))) (va_cons (ve_max rfl (by rfl) n_max (vxs_cons (VE.toX ve_int) (vxs_cons (VE.toX (ve_sub (vx_var (pv 11)) (VE.toX ve_int))) vxs_nil))) (va_cons (ve_var (pv 11)) va_nil)))))) (vg_name (i := 15) sc_law_right.nd rfl (.inl rfl))
      (vs_cons (vs_asg (i := 16) sc_law_right.nd rfl (.inl rfl) (ve_ix (VN.toX (vn_lst (va_cons ve_str (va_cons ve_str (va_cons ve_str va_nil))))) (VE.toX (ve_add (VE.toX (ve_intC (by rfl) n_int (vxs_cons (VE.toX (ve_in hu (vx_var (pv 15)) (vx_var (pv 12)))) vxs_nil))) (VE.toX (ve_mulA (VE.toX ve_int) (VE.toX (ve_intC (by rfl) n_int (vxs_cons (VE.toX (ve_in hu (vx_var (pv 15)) (vx_var (pv 13)))) vxs_nil)))))))))
      (vs_one (vs_if (vt_ne hu (VE.toX (ve_cal F_meets hr tk (by rfl) (va_cons (ve_var (pv 1)) (va_cons (ve_var (pv 3)) (va_cons (ve_var (pv 11)) (va_cons (ve_var (pv 15)) va_nil)))))) (vx_var (pv 16)))
      (vs_one (vs_ret ve_bl))
      vs_nil))))
      (vs_cons (vs_asg (i := 17) sc_law_right.nd rfl (.inl rfl) (ve_ix (vx_var (pv 7)) (vx_var (pv 11))))
      (vs_cons (vs_if (vt_ne hu (VE.toX (ve_in hu (vx_var (pv 11)) (vx_var (pv 5)))) (VE.toX (ve_and (VE.toX (ve_notN (vx_var (pv 17)) (VE.toX ve_non))) (ve_one (ve_in hu (vx_var (pv 17)) (vx_var (pv 12)))))))
      (vs_one (vs_ret ve_bl))
      vs_nil)
      (vs_one (vs_if (vt_ne hu (VE.toX (ve_in hu (vx_var (pv 11)) (vx_var (pv 6)))) (VE.toX (ve_and (VE.toX (ve_notN (vx_var (pv 17)) (VE.toX ve_non))) (ve_one (ve_in hu (vx_var (pv 17)) (vx_var (pv 13)))))))
      (vs_one (vs_ret ve_bl))
      vs_nil))))))))))
      (vs_cons (vs_asg (i := 18) sc_law_right.nd rfl (.inr rfl) (VN.toE (vn_lc (own := [("_law_step", 19)]) rfl sc_law_right.nd (vib_src (vx_var (pv 8))) (blkOk_by (N := N_law_right) (sc := defScope s_law_right) (by decide +kernel)) (by decide) (fun _ _ _ _ _ => (vg_name (i := 19) sc_law_right.nd rfl (.inl rfl))) (fun _ _ _ _ _ => (vts_one (VWe.pt (vw_and (vt_eq hu (VE.toX (ve_ix (vx_var (pv 19)) (VE.toX ve_int))) (VE.toX ve_str)) (vw_and1 (vt_in hu (VE.toX (ve_ix (vx_var (pv 7)) (VE.toX (ve_ix (vx_var (pv 19)) (VE.toX ve_int))))) (VE.toX (ve_ix (vx_var (pv 19)) (VE.toX ve_int))))))))) (fun _ _ _ _ _ => (ve_ix (vx_var (pv 19)) (VE.toX ve_int))))))
      (vs_cons (vs_if (vt_ne hu (VN.toX (vn_lc (own := [("_law_person", 11)]) rfl sc_law_right.nd (vib_src (vx_var (pv 5))) (blkOk_by (N := N_law_right) (sc := defScope s_law_right) (by decide +kernel)) (by decide) (fun _ _ _ _ _ => (vg_name (i := 11) sc_law_right.nd rfl (.inl rfl))) (fun _ _ _ _ _ => (vts_one (vt_notIn hu (vx_var (pv 11)) (vx_var (pv 18))))) (fun _ _ _ _ _ => (ve_var (pv 11))))) (VN.toX (vn_lst va_nil)))
      (vs_one (vs_ret ve_bl))
      vs_nil)
      (vs_one (vs_ret (ve_eq hu (VN.toX (vn_lc (own := [("_law_person", 11)]) rfl sc_law_right.nd (vib_src (vx_var (pv 18))) (blkOk_by (N := N_law_right) (sc := defScope s_law_right) (by decide +kernel)) (by decide) (fun _ _ _ _ _ => (vg_name (i := 11) sc_law_right.nd rfl (.inl rfl))) (fun _ _ _ _ _ => (vts_one (vt_notIn hu (vx_var (pv 11)) (VE.toX (ve_add (vx_var (pv 5)) (vx_var (pv 6))))))) (fun _ _ _ _ _ => (ve_var (pv 11))))) (VN.toX (vn_lst va_nil))))))))))))
abbrev s_c_word : Stmt := topS 55
abbrev N_c_word : List Str := ["_law_crank_here", "_law_row_here", "_law_to_end", "_law_found", "_law_come_here", "_law_served", "_law_style", "_law_chance"]
theorem sc_c_word : FnScope N_c_word ["_law_crank_here", "_law_row_here", "_law_to_end"] (defScope s_c_word) := ⟨rfl, rfl, rfl, by decide +kernel, rfl, by decide +kernel, by decide +kernel⟩
theorem w_c_word {S : SV} {S_law_wind : SV} (F : Fun K "_law_word" "_law_word" s_c_word f fd) (F_law_wind : Cal P w K mg base b 1 "_law_wind" ["_law_crank_here", "_law_many"] S_law_wind) (n_len : mg "len" = none) (hlen : ∀ ds Q E, S ds Q E → ds.length = 3)
    (law : ∀ ds Q E, S ds Q E → t_c_word S_law_wind (envOf 8 ds) (fin Q E)) : FnOk P w K mg base (L2.CX P w) 2 f fd ["_law_crank_here", "_law_row_here", "_law_to_end"] (spV b S) := by
  refine fnV F sc_c_word hlen (by decide) (fun cdv A outer s H E hr tk => ?_) law
  have hu := hr.units
  exact (vs_cons (vs_parT (is := [3, 4, 5, 6]) rfl (pgs_cons (pg_name (i := 3) sc_c_word.nd rfl (.inl rfl)) (pgs_cons (pg_name (i := 4) sc_c_word.nd rfl (.inl rfl)) (pgs_cons (pg_name (i := 5) sc_c_word.nd rfl (.inl rfl)) (pgs_cons (pg_name (i := 6) sc_c_word.nd rfl (.inl rfl)) pgs_nil)))) (vm_sh ve_str (vm_sh ve_int (vm_sh ve_int (vm_sh (ve_cal F_law_wind hr tk (by rfl) (va_cons (ve_var (pv 0)) (va_cons ve_int va_nil))) vm_nil)))))
      (vs_cons (vs_while (passes_of rfl) (vt_lt (vx_var (pv 5)) (VE.toX (ve_len (by rfl) n_len (vxs_cons (vx_var (pv 1)) vxs_nil))))
      (vs_cons (vs_asg (i := 7) sc_c_word.nd rfl (.inl rfl) (ve_ix (VN.toX (vn_lst (va_cons ve_int (va_cons ve_int (va_cons ve_int (va_cons ve_int va_nil)))))) (vx_var (pv 6))))
      (vs_one (vs_if (VWe.pt (vw_or (vt_eq hu (vx_var (pv 5)) (vx_var (pv 4))) (vw_or1 (VWe.pt (vw_and (vt_lt (vx_var (pv 4)) (VE.toX (ve_len (by rfl) n_len (vxs_cons (vx_var (pv 1)) vxs_nil)))) (vw_and1 (vt_lt (VE.toX (ve_cal F_law_wind hr tk (by rfl) (va_cons (ve_var (pv 0)) (va_cons ve_int va_nil)))) (vx_var (pv 7)))))))))
      (vs_one (vs_par2 (i := 3) (j := 4) rfl sc_c_word.nd rfl rfl (by decide) rfl rfl (vm_sh (ve_add (vx_var (pv 3)) (VE.toX ve_str)) (vm_sh (ve_add (vx_var (pv 4)) (VE.toX ve_int)) vm_nil)) (by rfl)))
      (vs_one (vs_par2 (i := 3) (j := 5) rfl sc_c_word.nd rfl rfl (by decide) rfl rfl (vm_sh (ve_add (vx_var (pv 3)) (VE.toX ve_str)) (vm_sh (ve_add (vx_var (pv 5)) (VE.toX ve_int)) vm_nil)) (by rfl)))))))
      (vs_one (vs_ret (ve_if (vt_val (vx_var (pv 2))) (ve_var (pv 3)) (ve_sl (vx_var (pv 3)) vo_no (vo_at (VE.toX (ve_cal F_law_wind hr tk (by rfl) (va_cons (ve_var (pv 0)) (va_cons (ve_add (VE.toX (ve_len (by rfl) n_len (vxs_cons (vx_var (pv 3)) vxs_nil))) (VE.toX ve_int)) va_nil)))))))))))
abbrev s_law : Stmt := topS 59
abbrev N_law : List Str := ["_law_script", "_law_crank_here", "_law_size", "_law_row_here"]
theorem sc_law : FnScope N_law ["_law_script"] (defScope s_law) := ⟨rfl, rfl, rfl, by decide +kernel, rfl, by decide +kernel, by decide +kernel⟩
theorem w_law {S_c_row : SV} {S_law_right : SV} {S_c_word : SV} (F_c_row : Cal P w K mg base b 2 "_law_row" ["_law_crank_here", "_law_size"] S_c_row) (F_law_right : Cal P w K mg base b 12 "_law_right" ["_law_crank_here", "_law_row_here", "_law_word_here"] S_law_right) (F_c_word : Cal P w K mg base b 2 "_law_word" ["_law_crank_here", "_law_row_here", "_law_to_end"] S_c_word) (cdv : Value) (A : Around) (outer : List Env) (s : Shared) (H : Hp) (E : XK) (hr : Room 12 (A.deeper (envOfC "law" (defScope s_law) s.heap.objs.size f cdv))) (hgd : (A.deeper (envOfC "law" (defScope s_law) s.heap.objs.size f cdv)).guards = some []) (tk : Takes (cxOf (L2.CX P w) P w K mg base N_law "law" (defScope s_law) f cdv A outer s H E) (WF E)) : VSs (cxOf (L2.CX P w) P w K mg base N_law "law" (defScope s_law) f cdv A outer s H E) b (WF E) (defBody s_law).tail (t_law S_c_row S_law_right S_c_word) := by
  have hu := hr.units
  exact (vs_cons (vs_for (passes_of rfl) rfl (vi_src (VN.toE (vn_lst (va_cons ve_int (va_cons ve_int (va_cons ve_int va_nil)))))) (vg_name (i := 2) sc_law.nd rfl (.inl rfl))
      (vs_cons (vs_asg (i := 3) sc_law.nd rfl (.inl rfl) (ve_cal F_c_row hr tk (by rfl) (va_cons (ve_var (pv 1)) (va_cons (ve_var (pv 2)) va_nil))))
      (vs_one (vs_if (vt_not (vt_val (VE.toX (ve_cal F_law_right hr tk (by rfl) (va_cons (ve_var (pv 1)) (va_cons (ve_var (pv 3)) (va_cons (ve_cal F_c_word hr tk (by rfl) (va_cons (ve_var (pv 1)) (va_cons (ve_var (pv 3)) (va_cons ve_bl va_nil)))) va_nil)))))))
      (vs_one (vs_ret ve_bl))
      vs_nil))))
      (vs_one (vs_ret ve_bl)))
end
end LawP
set_option Elab.async false
set_option linter.all false
set_option maxRecDepth 100000
set_option maxHeartbeats 4000000
namespace LawP
open PySem PySem.Spec PyProof.Rows L2 VL
abbrev sCrank : Stmt := topS 49
abbrev sWind : Stmt := topS 50
theorem scCrank : FnScope ["_law_script", "_law_one", "_law_two", "_law_cell"] ["_law_script"] (defScope sCrank) := ⟨rfl, rfl, rfl, by decide +kernel, rfl, by decide +kernel, by decide +kernel⟩
theorem scWind : FnScope ["_law_crank_here", "_law_many", "_law_cell"] ["_law_crank_here", "_law_many"] (defScope sWind) := ⟨rfl, rfl, rfl, by decide +kernel, rfl, by decide +kernel, by decide +kernel⟩
section
variable {P : Program} {w : World} {K : PySem.W.Frag} {mg : Str → Option Value} {base : Heap} {f f2 : Addr} {fd fd2 : FuncData}
theorem ok_wind {k : Nat} (F : Fun K "_law_wind" "_law_wind" sWind f fd) : FnOk P w K mg base (L2.CX P w) (k + 1) f fd ["_law_crank_here", "_law_many"] spWind := by
  refine F.okX scWind (fun vs H Q E h => ?_) (fun cdv A outer s H vs Q E hr h => ?_)
  · obtain ⟨r, l, gs, m, rfl, _⟩ := h
    rfl
  · have hu := hr.units
    refine ⟨_, pss_cons (ps_if (pt_cmpR op_lt (pv 1) pe_int (nomark _)) (pss_one (ps_ret pe_int)) pss_nil)
      (pss_cons (ps_if (pt_cmpR (op_neP hu) (pe_ix ix_list (pv 0) pe_int (fun _ _ => rfl)) (pe_lst pa_nil) (nomark _))
        (pss_cons (ps_set (i := 2) scWind.nd rfl (.inl rfl) (pe_bm PySem.F.plainAttrs_list PySem.F.slot_list_pop PySem.F.type_list_pop mt_popAt (pe_ix ix_list (pv 0) pe_int (fun _ _ => rfl)) (pa_cons pe_int pa_nil)))
        (pss_cons (ps_if (pt_cmpR op_ge (pv 2) (pv 1) (nomark _))
          (pss_one (ps_expr (pe_bm PySem.F.plainAttrs_list PySem.F.slot_list_insert PySem.F.type_list_insert mt_insert (pe_ix ix_list (pv 0) pe_int (fun _ _ => rfl)) (pa_cons pe_int (pa_cons (pe_op op_fdivB (pv 2) (pv 1)) pa_nil))))) pss_nil)
        (pss_one (ps_ret (pe_op op_mod (pv 2) (pv 1)))))) pss_nil)
      (pss_cons (ps_asg (pe_op op_add (pe_op op_mod (pe_op op_mul (pe_ix ix_list (pv 0) pe_int (fun _ _ => rfl)) pe_int) pe_int) pe_int) (pg_sub (pv 0) pe_int set_list (by intro _; rfl)) (by rfl) (by rfl) (by rfl))
      (pss_cons (ps_asg (pe_op op_add (pe_op op_mod (pe_op op_mul (pe_ix ix_list (pv 0) pe_int (fun _ _ => rfl)) pe_int) pe_int) pe_int) (pg_sub (pv 0) pe_int set_list (by intro _; rfl)) (by rfl) (by rfl) (by rfl))
      (pss_one (ps_ret (pe_op op_mod (pe_op op_fdivB (pe_op op_add (pe_op op_mul (pe_ix ix_list (pv 0) pe_int (fun _ _ => rfl)) pe_int) (pe_ix ix_list (pv 0) pe_int (fun _ _ => rfl))) pe_int) (pv 1))))))), ?_⟩
    obtain ⟨r, l, gs, m, rfl, hb, m0, m1, q⟩ := h
    have nrl := hb.ne
    have hb0 := hb
    obtain ⟨x, n, hr1, hl1, hz1⟩ := hb
    have a0 : ∀ a b c : V, atI [a, b, c] 0 = some a := fun _ _ _ => rfl
    have a1 : ∀ a b c : V, atI [a, b, c] 1 = some b := fun _ _ _ => rfl
    have a2 : ∀ a b c : V, atI [a, b, c] 2 = some c := fun _ _ _ => rfl
    refine ⟨.int m, rfl, m, 2, rfl, rfl, _, rfl, ite2 (fun c => ?_) (fun c => ?_)⟩
    · exact q _ _ _ .refl hb0 (Int.le_refl _) m0
    refine ⟨.ref r, rfl, r, _, _, .ref l, rfl, rfl, SqL.of hr1, a2 _ _ _, Nat.zero_le _, fun p hp => ?_⟩
    have pr : r ≠ p := ne_of_none hr1 hp
    have pl : l ≠ p := ne_of_none hl1 hp
    have hr2 : (upd H p (.lst [])) r = some (.lst [.int x, .int n, .ref l]) := by rw [upd_ne pr]; exact hr1
    have hl2 : (upd H p (.lst [])) l = some (.lst (gs.map V.int)) := by rw [upd_ne pl]; exact hl1
    have kp2 : KeepJ r l H (upd H p (.lst [])) := KeepJ.refl.upd (.inr (.inr hp))
    refine ⟨.list (gs.map PyData.int), .list [], .lst hl2 not_false (.of_ints _), .lst upd_same not_false .nil, (by simp only [PyData.plain]; exact plain_ints gs), rfl, .inr (by decide), _, rfl, ?_⟩
    generalize upd H p (.lst []) = H2 at hr2 hl2 kp2
    cases gs with
    | cons g gs =>
      refine ⟨.ref r, rfl, r, _, _, .ref l, rfl, rfl, SqL.of hr2, a2 _ _ _, .inl ⟨rfl, _, SqL.of hl2⟩, ?_⟩
      refine ⟨l, (g :: gs).map V.int, 0, 0, .int g, rfl, rfl, hl2, by decide, by decide, by simp [seqIndex?], rfl, ?_⟩
      have hr3 : (upd H2 l (.lst (gs.map V.int))) r = some (.lst [.int x, .int n, .ref l]) := by rw [upd_ne nrl]; exact hr2
      have hl3 : (upd H2 l (.lst (gs.map V.int))) l = some (.lst (gs.map V.int)) := upd_same
      have kp3 : KeepJ r l H (upd H2 l (.lst (gs.map V.int))) := kp2.upd (.inr (.inl rfl))
      have e3 : ((g :: gs).map V.int).eraseIdx 0 = gs.map V.int := rfl
      rw [e3]
      generalize upd H2 l (.lst (gs.map V.int)) = H3 at hr3 hl3 kp3
      have hz1' : gs.length + 1 ≤ 63 := hz1
      refine ⟨.int g, rfl, .int m, rfl, g, m, rfl, rfl, _, rfl, ite2 (fun c => ?_) (fun c => ?_)⟩
      · refine ⟨.ref r, rfl, r, _, _, .ref l, rfl, rfl, SqL.of hr3, a2 _ _ _, .inl ⟨rfl, _, SqL.of hl3⟩, .int g, rfl, .int m, rfl, g, m, rfl, rfl, ⟨by omega, by omega⟩, ?_⟩
        have hl : gs.length < sizeLine := Nat.lt_of_le_of_lt (show gs.length ≤ 63 by omega) (by decide)
        refine ⟨l, _, 0, _, rfl, rfl, hl3, by rw [List.length_map]; exact hl, Int.le_refl _, by decide, ?_⟩
        have b4 : crankAt r l (g.fdiv m :: gs) (upd H3 l (.lst ((g.fdiv m :: gs).map V.int))) := ⟨x, n, by rw [upd_ne nrl]; exact hr3, upd_same, hz1⟩
        exact ⟨.int g, rfl, .int m, rfl, g, m, rfl, rfl, m0, q _ _ _ (kp3.upd (.inr (.inl rfl))) b4 (Int.emod_nonneg _ (by omega)) (Int.emod_lt_of_pos _ m0)⟩
      · exact ⟨.int g, rfl, .int m, rfl, g, m, rfl, rfl, m0, q _ _ _ kp3 ⟨x, n, hr3, hl3, by omega⟩ (Int.emod_nonneg _ (by omega)) (Int.emod_lt_of_pos _ m0)⟩
    | nil =>
      refine ⟨.ref r, rfl, r, _, _, .int x, rfl, rfl, SqL.of hr2, a0 _ _ _, x, 16807, rfl, rfl, .inr ⟨by decide, by decide⟩, _, 2147483647, rfl, rfl, (show (0 : Int) < 2147483647 by decide), _, 1, rfl, rfl, ?_⟩
      refine ⟨.ref r, rfl, r, _, 0, 0, rfl, rfl, hr2, rfl, ?_⟩
      dsimp only
      generalize x * 16807 % 2147483647 + 1 = x2
      have kp3 : KeepJ r l H (upd H2 r (.lst [.int x2, .int n, .ref l])) := kp2.upd (.inl rfl)
      have hr3 : upd H2 r (.lst [.int x2, .int n, .ref l]) r = some (.lst [.int x2, .int n, .ref l]) := upd_same
      have hl3 : upd H2 r (.lst [.int x2, .int n, .ref l]) l = some (.lst (([] : List Int).map V.int)) := by rw [upd_ne nrl.symm]; exact hl2
      have e3 : ([V.int x, .int n, .ref l]).set 0 (.int x2) = [.int x2, .int n, .ref l] := rfl
      rw [e3]
      generalize upd H2 r (.lst [.int x2, .int n, .ref l]) = H3 at hr3 hl3 kp3
      refine ⟨.ref r, rfl, r, _, _, .int n, rfl, rfl, SqL.of hr3, a1 _ _ _, n, 40692, rfl, rfl, .inr ⟨by decide, by decide⟩, _, 2147483399, rfl, rfl, (show (0 : Int) < 2147483399 by decide), _, 1, rfl, rfl, ?_⟩
      refine ⟨.ref r, rfl, r, _, 1, 1, rfl, rfl, hr3, rfl, ?_⟩
      dsimp only
      generalize n * 40692 % 2147483399 + 1 = n2
      have kp4 : KeepJ r l H (upd H3 r (.lst [.int x2, .int n2, .ref l])) := kp3.upd (.inl rfl)
      have hr4 : upd H3 r (.lst [.int x2, .int n2, .ref l]) r = some (.lst [.int x2, .int n2, .ref l]) := upd_same
      have hl4 : upd H3 r (.lst [.int x2, .int n2, .ref l]) l = some (.lst (([] : List Int).map V.int)) := by rw [upd_ne nrl.symm]; exact hl3
      have e4 : ([V.int x2, .int n, .ref l]).set 1 (.int n2) = [.int x2, .int n2, .ref l] := rfl
      rw [e4]
      generalize upd H3 r (.lst [.int x2, .int n2, .ref l]) = H4 at hr4 hl4 kp4
      refine ⟨.ref r, rfl, r, _, _, .int x2, rfl, rfl, SqL.of hr4, a0 _ _ _, x2, 2147483399, rfl, rfl, .inr ⟨by decide, by decide⟩, .ref r, rfl, r, _, _, .int n2, rfl, rfl, SqL.of hr4, a1 _ _ _, _, n2, rfl, rfl, _, 1024, rfl, rfl, ⟨by decide, by decide⟩, .int m, rfl, _, m, rfl, rfl, m0, ?_⟩
      exact q _ [] _ kp4 ⟨x2, n2, hr4, hl4, by simp⟩ (Int.emod_nonneg _ (by omega)) (Int.emod_lt_of_pos _ m0)
theorem ok_crank {k : Nat} (F : Fun K "_law_crank" "_law_crank" sCrank f fd) (ml : mg "len" = none) : FnOk P w K mg base (L2.CX P w) (k + 1) f fd ["_law_script"] (spCrank K) := by
  refine F.okX scCrank (fun vs H Q E h => ?_) (fun cdv A outer s H vs Q E hr h => ?_)
  · obtain ⟨a, ns, rfl, _⟩ := h
    rfl
  · have hu := hr.units
    refine ⟨_, pss_cons (ps_par (i := 1) (j := 2) rfl scCrank.nd rfl rfl (by decide) rfl rfl (pa_cons (pe_op op_add pe_int (pe_callB call_len_seq (by rfl) ml PySem.boot_len (pa_cons (pv 0) pa_nil))) (pa_cons pe_int pa_nil)) (by rfl))
      (pss_cons (ps_for (passes_of rfl) rfl (pi_list (pv 0)) (pg_name (i := 3) scCrank.nd rfl (.inl rfl))
        (pss_cons (ps_set (i := 1) scCrank.nd rfl (.inl rfl) (pe_op op_mod (pe_op op_add (pe_op op_mul (pv 1) pe_int) (pe_op op_mod (pv 3) pe_int)) pe_int))
        (pss_one (ps_set (i := 2) scCrank.nd rfl (.inl rfl) (pe_op op_mod (pe_op op_add (pe_op op_add (pe_op op_mul (pv 2) pe_int) (pe_op op_mod (pv 3) pe_int)) pe_int) pe_int)))))
      (pss_one (ps_ret (pe_lst (pa_cons (pv 1) (pa_cons (pv 2) (pa_cons (pe_lc (own := [("_law_cell", 3)]) rfl scCrank.nd (pi_list (pv 0)) (blkOk_by (N := ["_law_script", "_law_one", "_law_two", "_law_cell"]) (sc := defScope sCrank) (by decide +kernel))
        (fun _ _ _ _ _ => pg_name (i := 3) scCrank.nd rfl (.inl rfl)) (fun _ _ _ _ _ => pts_one (pt_cmpR op_ge (pv 3) (pe_op op_pow pe_int pe_int) (nomark _))) (fun _ _ _ _ _ => pv 3)) pa_nil))))))), ?_⟩
    obtain ⟨a, ns, rfl, hS, hl, q⟩ := h
    refine ⟨.ref a, rfl, a, _, rfl, .inl hS, 521288629, _, rfl, rfl, _, _, rfl, ?_⟩
    refine ⟨.ref a, rfl, a, rfl, ⟨_, hS⟩, ?_⟩
    refine for_list (xs := ns.map V.int) (fun i σ H' => ∃ (l mx : Int) (x4 : Option V), σ = [some (.ref a), some (.int l), some (.int mx), x4] ∧ H' = H) ⟨_, 88675123, none, rfl, rfl⟩ (fun i σ H' _ ⟨_, _, _, _, e⟩ => by rw [e]; exact hS) (fun i x σ H' hx iv => ?_) (fun σ H' iv => ?_)
    · obtain ⟨l, mx, x4, rfl, rfl⟩ := iv
      rw [List.getElem?_map] at hx
      cases em : ns[i]? with
      | none => rw [em] at hx; cases hx
      | some c =>
        rw [em] at hx
        cases hx
        refine ⟨.int l, rfl, l, 16807, rfl, rfl, .inr ⟨by decide, by decide⟩, .int c, rfl, c, 2147483629, rfl, rfl, (show (0 : Int) < 2147483629 by decide), _, _, rfl, rfl, _, 2147483647, rfl, rfl, (show (0 : Int) < 2147483647 by decide), ?_⟩
        refine ⟨.int mx, rfl, mx, 40692, rfl, rfl, .inr ⟨by decide, by decide⟩, .int c, rfl, c, 2147483549, rfl, rfl, (show (0 : Int) < 2147483549 by decide), _, _, rfl, rfl, _, 7, rfl, rfl, _, 2147483399, rfl, rfl, (show (0 : Int) < 2147483399 by decide), ?_⟩
        exact ⟨_, _, _, rfl, rfl⟩
    · obtain ⟨l, mx, x4, rfl, rfl⟩ := iv
      refine ⟨.int l, rfl, .int mx, rfl, .ref a, rfl, a, rfl, ⟨_, hS⟩, fun D hD => ?_⟩
      have nd : ∀ c o, H' c = some o → c ≠ D := fun c o e z => by rw [z, hD] at e; cases e
      have upS : ∀ H2, (∀ c o, H' c = some o → H2 c = some o) → SqL K H2 a (ns.map V.int) := fun H2 k => hS.imp (fun r => r.imp (k _ _) fun ⟨o, e⟩ => ⟨o, k _ _ e⟩) id
      refine lc_list (xs := ns.map V.int) (fun i H2 => (∀ c o, H' c = some o → H2 c = some o) ∧ H2 D = some (.lst ((bigs (10 ^ 18) (ns.take i)).map V.int))) ?_ (fun i H2 _ h => upS H2 h.1) ?_ ?_
      · exact ⟨fun c o e => by rw [upd_ne (nd c o e)]; exact e, by rw [upd_same]; rfl⟩
      · intro i x H2 hx ⟨k, e3⟩
        rw [List.getElem?_map] at hx
        cases em : ns[i]? with
        | none => rw [em] at hx; cases hx
        | some c =>
          rw [em] at hx
          cases hx
          have e5 : bigs (10 ^ 18) (ns.take (i + 1)) = bigs (10 ^ 18) (ns.take i) ++ bigs (10 ^ 18) [c] := by
            rw [List.take_add_one, em]
            exact List.filter_append ..
          refine ⟨rfl, .int c, rfl, 10, 18, rfl, rfl, ⟨by decide, by decide, by decide⟩, c, _, rfl, rfl, _, rfl, ?_⟩
          by_cases hc : (10 : Int) ^ 18 ≤ c
          · have hd : decide ((10 : Int) ^ ((18 : Int).toNat) ≤ c) = true := decide_eq_true hc
            rw [hd]
            dsimp only
            rw [if_pos rfl]
            refine ⟨.int c, rfl, _, e3, ?_, fun b o e => by rw [upd_ne (nd b o e)]; exact k b o e, ?_⟩
            · rw [List.length_map]
              have h1 : (bigs (10 ^ 18) (ns.take i)).length ≤ (ns.take i).length := List.length_filter_le _ _
              have h2 : (ns.take i).length ≤ 63 := by rw [List.length_take]; omega
              exact Nat.lt_of_le_of_lt (Nat.le_trans h1 h2) (by decide)
            · rw [upd_same, e5]
              have e6 : bigs (10 ^ 18) [c] = [c] := by unfold bigs; rw [List.filter_cons_of_pos (by simpa using hc)]; rfl
              rw [e6, List.map_append]
              rfl
          · have hd : decide ((10 : Int) ^ ((18 : Int).toNat) ≤ c) = false := decide_eq_false hc
            rw [hd]
            dsimp only
            rw [if_neg Bool.false_ne_true]
            refine ⟨k, ?_⟩
            rw [e3, e5]
            have e6 : bigs (10 ^ 18) [c] = [] := by unfold bigs; rw [List.filter_cons_of_neg (by simpa using hc)]; rfl
            rw [e6, List.append_nil]
      · intro H2 ⟨k, e3⟩
        rw [List.length_map, List.take_length] at e3
        refine ⟨Nat.le_trans (show 3 ≤ 1000 by decide) (by decide), fun r hr => ?_⟩
        have hbl : (bigs (10 ^ 18) ns).length ≤ 63 := Nat.le_trans (List.length_filter_le _ _) hl
        exact q r D _ (fun c o e => by rw [upd_ne (ne_of_none (k c o e) hr)]; exact k c o e) ⟨_, l, mx, upd_same, by rw [upd_ne (ne_of_none e3 hr)]; exact e3, hbl⟩
end
end LawP
set_option Elab.async false
set_option linter.all false
set_option maxRecDepth 100000
set_option maxHeartbeats 4000000
namespace LawP
open PySem PySem.Spec PyProof.Rows L2 VL
theorem all_mk {l : PySem.W.OpenLaw} {w : World} {K : PySem.W.Frag} {h : Heap} {mg : Str → Option Value} {fa : Addr} (X : K.In h) (G : h.Ns mainGlobals mg) (hfa : mg "law" = some (.ref fa))
    (d49 : DefK K "_law_crank" (topS 49)) (d50 : DefK K "_law_wind" (topS 50)) (d51 : DefK K "_law_row" (topS 51)) (d9 : DefK K "is_integer" (topS 9)) (d16 : DefKA K "places_in_measures" "places_in" (topS 16)) (d10 : DefK K "mates" (topS 10)) (d18 : DefK K "bounds_for" (topS 18)) (d24 : DefK K "joiners" (topS 24)) (d52 : DefK K "_law_mates" (topS 52)) (d53 : DefK K "_law_come" (topS 53)) (d54 : DefK K "_law_play" (topS 54)) (d56 : DefK K "_law_order" (topS 56)) (d57 : DefK K "_law_met" (topS 57)) (d20 : DefK K "check_persons" (topS 20)) (d23 : DefK K "met_by" (topS 23)) (d11 : DefK K "word_with" (topS 11)) (d30 : DefK K "is_number" (topS 30)) (d31 : DefK K "is_order" (topS 31)) (d32 : DefK K "require_order" (topS 32)) (d33 : DefKA K "places_in_orders" "places_in" (topS 33)) (d35 : DefK K "kind_of" (topS 35)) (d36 : DefK K "kinds_of" (topS 36)) (d37 : DefK K "misplaced" (topS 37)) (d38 : DefK K "least_counts" (topS 38)) (d39 : DefK K "greatest_counts" (topS 39)) (d40 : DefK K "clashes" (topS 40)) (d41 : DefK K "is_possible" (topS 41)) (d42 : DefK K "stairs" (topS 42)) (d43 : DefK K "bounds_of" (topS 43)) (d46 : DefK K "earliest" (topS 46)) (d47 : DefK K "latest" (topS 47)) (d21 : DefK K "waiting_range" (topS 21)) (d22 : DefK K "meets" (topS 22)) (d58 : DefK K "_law_right" (topS 58)) (d55 : DefK K "_law_word" (topS 55)) (d59 : DefK K "law" (topS 59))
    {t0 : Tok} (m0 : PySem.W.nsIn K mainGlobals "NEVER" = some (some (.str "never" t0))) {t1 : Tok} (m1 : PySem.W.nsIn K mainGlobals "ALWAYS" = some (some (.str "always" t1))) {t2 : Tok} (m2 : PySem.W.nsIn K mainGlobals "SOMETIMES" = some (some (.str "sometimes" t2))) {t3 : Tok} (m3 : PySem.W.nsIn K mainGlobals "SERVICE" = some (some (.str "s" t3))) {t4 : Tok} (m4 : PySem.W.nsIn K mainGlobals "ARRIVAL" = some (some (.str "a" t4))) {t5 : Tok} (m5 : PySem.W.nsIn K mainGlobals "BOTH" = some (some (.str "both" t5))) {t6 : Tok} (m6 : PySem.W.nsIn K mainGlobals "NEAR" = some (some (.str "near" t6))) {t7 : Tok} (m7 : PySem.W.nsIn K mainGlobals "LEADS" = some (some (.str "leads" t7))) {t8 : Tok} (m8 : PySem.W.nsIn K mainGlobals "NONE" = some (some (.str "none" t8)))
    (z_tuple : PySem.W.nsIn K mainGlobals "tuple" = some none) (z_range : PySem.W.nsIn K mainGlobals "range" = some none) (z_isinstance : PySem.W.nsIn K mainGlobals "isinstance" = some none) (z_bool : PySem.W.nsIn K mainGlobals "bool" = some none) (z_int : PySem.W.nsIn K mainGlobals "int" = some none) (z_len : PySem.W.nsIn K mainGlobals "len" = some none) (z_all : PySem.W.nsIn K mainGlobals "all" = some none) (z_set : PySem.W.nsIn K mainGlobals "set" = some none) (z_enumerate : PySem.W.nsIn K mainGlobals "enumerate" = some none) (z_max : PySem.W.nsIn K mainGlobals "max" = some none) (z_min : PySem.W.nsIn K mainGlobals "min" = some none) (z_any : PySem.W.nsIn K mainGlobals "any" = some none) (z_zip : PySem.W.nsIn K mainGlobals "zip" = some none) (z_sorted : PySem.W.nsIn K mainGlobals "sorted" = some none) (z_list : PySem.W.nsIn K mainGlobals "list" = some none) (z_sum : PySem.W.nsIn K mainGlobals "sum" = some none) (z_abs : PySem.W.nsIn K mainGlobals "abs" = some none) (R_NoOrder : Rai0 K "NoOrder") (R_Impossible : Rai0 K "Impossible") (R_NoPerson : Rai1 K "NoPerson" "NoPerson.__init__" "value" s_NoPerson) (KL_Limits : ClsK K "Limits" "Limits.__init__" s_Limits_init) (KL_Table : ClsK K "Table" "Table.__init__" s_Table_init) (KN_Limits_places : NoAtK K "Limits" "places") (KN_Limits_mates : NoAtK K "Limits" "mates") (KN_Limits_lows : NoAtK K "Limits" "lows") (KN_Limits_highs : NoAtK K "Limits" "highs") (KN_Table_lows : NoAtK K "Table" "lows") (KN_Table_highs : NoAtK K "Table" "highs") (KN_Table_numbers : NoAtK K "Table" "numbers") (KM_Limits_meeting : MethK K "Limits" "meeting" "Limits.meeting" s_Limits_meeting) (KM_Limits_joining : MethK K "Limits" "joining" "Limits.joining" s_Limits_joining) (KM_Limits_met : MethK K "Limits" "met" "Limits.met" s_Limits_met) :
    ∃ fd : FuncData, (∀ (s : Shared) (v : Value), BindsTo s fd ⟨[v], []⟩ [("_law_script", v)]) ∧ ∀ base : Heap, K.In base → base.Ns mainGlobals mg → FnG l.prog w K mg base 13 fa fd ["_law_script"] (spLaw K) := by
  obtain ⟨f59, oc, kV, doc, pm, cdv, ct, od, an, osl, a, ql, qc, qp⟩ := d59.ex
  have e := hfa.symm.trans (PySem.W.mg_of X G a)
  cases e
  have y_tuple := PySem.W.mg_none_of X G z_tuple
  have y_range := PySem.W.mg_none_of X G z_range
  have y_isinstance := PySem.W.mg_none_of X G z_isinstance
  have y_bool := PySem.W.mg_none_of X G z_bool
  have y_int := PySem.W.mg_none_of X G z_int
  have y_len := PySem.W.mg_none_of X G z_len
  have y_all := PySem.W.mg_none_of X G z_all
  have y_set := PySem.W.mg_none_of X G z_set
  have y_enumerate := PySem.W.mg_none_of X G z_enumerate
  have y_max := PySem.W.mg_none_of X G z_max
  have y_min := PySem.W.mg_none_of X G z_min
  have y_any := PySem.W.mg_none_of X G z_any
  have y_zip := PySem.W.mg_none_of X G z_zip
  have y_sorted := PySem.W.mg_none_of X G z_sorted
  have y_list := PySem.W.mg_none_of X G z_list
  have y_sum := PySem.W.mg_none_of X G z_sum
  have y_abs := PySem.W.mg_none_of X G z_abs
  have c0 := PySem.W.mg_of X G m0
  have c1 := PySem.W.mg_of X G m1
  have c2 := PySem.W.mg_of X G m2
  have c3 := PySem.W.mg_of X G m3
  have c4 := PySem.W.mg_of X G m4
  have c5 := PySem.W.mg_of X G m5
  have c6 := PySem.W.mg_of X G m6
  have c7 := PySem.W.mg_of X G m7
  have c8 := PySem.W.mg_of X G m8
  obtain ⟨f49, v49, F49, g49, p49, e49⟩ := d49.use X G
  have B49 := F49.binds (ps := ["_law_script"]) fun _ _ _ _ _ _ us hl => match us, hl with | [_], _ => rfl
  obtain ⟨f50, v50, F50, g50, p50, e50⟩ := d50.use X G
  have B50 := F50.binds (ps := ["_law_crank_here", "_law_many"]) fun _ _ _ _ _ _ us hl => match us, hl with | [_, _], _ => rfl
  obtain ⟨f51, v51, F51, g51, p51, e51⟩ := d51.use X G
  have B51 := F51.binds (ps := ["_law_crank_here", "_law_size"]) fun _ _ _ _ _ _ us hl => match us, hl with | [_, _], _ => rfl
  obtain ⟨f9, v9, F9, g9, p9, e9⟩ := d9.use X G
  have B9 := F9.binds (ps := ["value", "low", "high"]) fun _ _ _ _ _ _ us hl => match us, hl with | [_, _, _], _ => rfl
  obtain ⟨f16, v16, F16, g16, p16, e16⟩ := d16.use X G
  have B16 := F16.binds (ps := ["row", "order"]) fun _ _ _ _ _ _ us hl => match us, hl with | [_, _], _ => rfl
  obtain ⟨f10, v10, F10, g10, p10, e10⟩ := d10.use X G
  have B10 := F10.binds (ps := ["row"]) fun _ _ _ _ _ _ us hl => match us, hl with | [_], _ => rfl
  obtain ⟨f18, v18, F18, g18, p18, e18⟩ := d18.use X G
  have B18 := F18.binds (ps := ["person", "places", "mate"]) fun _ _ _ _ _ _ us hl => match us, hl with | [_, _, _], _ => rfl
  obtain ⟨f24, v24, F24, g24, p24, e24⟩ := d24.use X G
  have B24 := F24.binds (ps := ["row", "order"]) fun _ _ _ _ _ _ us hl => match us, hl with | [_, _], _ => rfl
  obtain ⟨f52, v52, F52, g52, p52, e52⟩ := d52.use X G
  have B52 := F52.binds (ps := ["_law_row_here"]) fun _ _ _ _ _ _ us hl => match us, hl with | [_], _ => rfl
  obtain ⟨f53, v53, F53, g53, p53, e53⟩ := d53.use X G
  have B53 := F53.binds (ps := ["_law_waiting", "_law_person", "_law_mate"]) fun _ _ _ _ _ _ us hl => match us, hl with | [_, _, _], _ => rfl
  obtain ⟨f54, v54, F54, g54, p54, e54⟩ := d54.use X G
  have B54 := F54.binds (ps := ["_law_row_here", "_law_word_here"]) fun _ _ _ _ _ _ us hl => match us, hl with | [_, _], _ => rfl
  obtain ⟨f56, v56, F56, g56, p56, e56⟩ := d56.use X G
  have B56 := F56.binds (ps := ["_law_row_here", "_law_word_here"]) fun _ _ _ _ _ _ us hl => match us, hl with | [_, _], _ => rfl
  obtain ⟨f57, v57, F57, g57, p57, e57⟩ := d57.use X G
  have B57 := F57.binds (ps := ["_law_row_here", "_law_word_here"]) fun _ _ _ _ _ _ us hl => match us, hl with | [_, _], _ => rfl
  obtain ⟨f20, v20, F20, g20, p20, e20⟩ := d20.use X G
  obtain ⟨f23, v23, F23, g23, p23, e23⟩ := d23.use X G
  have B23 := F23.binds (ps := ["row", "order", "person"]) fun _ _ _ _ _ _ us hl => match us, hl with | [_, _, _], _ => rfl
  obtain ⟨f11, v11, F11, g11, p11, e11⟩ := d11.use X G
  have B11 := F11.binds (ps := ["counts"]) fun _ _ _ _ _ _ us hl => match us, hl with | [_], _ => rfl
  obtain ⟨f30, v30, F30, g30, p30, e30⟩ := d30.use X G
  have B30 := F30.binds (ps := ["value", "low", "high"]) fun _ _ _ _ _ _ us hl => match us, hl with | [_, _, _], _ => rfl
  obtain ⟨f31, v31, F31, g31, p31, e31⟩ := d31.use X G
  have B31 := F31.binds (ps := ["row", "value"]) fun _ _ _ _ _ _ us hl => match us, hl with | [_, _], _ => rfl
  obtain ⟨f32, v32, F32, g32, p32, e32⟩ := d32.use X G
  have B32 := F32.binds (ps := ["row", "value"]) fun _ _ _ _ _ _ us hl => match us, hl with | [_, _], _ => rfl
  obtain ⟨f33, v33, F33, g33, p33, e33⟩ := d33.use X G
  have B33 := F33.binds (ps := ["order"]) fun _ _ _ _ _ _ us hl => match us, hl with | [_], _ => rfl
  obtain ⟨f35, v35, F35, g35, p35, e35⟩ := d35.use X G
  have B35 := F35.binds (ps := ["is_near", "is_ahead"]) fun _ _ _ _ _ _ us hl => match us, hl with | [_, _], _ => rfl
  obtain ⟨f36, v36, F36, g36, p36, e36⟩ := d36.use X G
  have B36 := F36.binds (ps := ["row", "order"]) fun _ _ _ _ _ _ us hl => match us, hl with | [_, _], _ => rfl
  obtain ⟨f37, v37, F37, g37, p37, e37⟩ := d37.use X G
  have B37 := F37.binds (ps := ["row", "order"]) fun _ _ _ _ _ _ us hl => match us, hl with | [_, _], _ => rfl
  obtain ⟨f38, v38, F38, g38, p38, e38⟩ := d38.use X G
  have B38 := F38.binds (ps := ["row", "order"]) fun _ _ _ _ _ _ us hl => match us, hl with | [_, _], _ => rfl
  obtain ⟨f39, v39, F39, g39, p39, e39⟩ := d39.use X G
  have B39 := F39.binds (ps := ["row", "order"]) fun _ _ _ _ _ _ us hl => match us, hl with | [_, _], _ => rfl
  obtain ⟨f40, v40, F40, g40, p40, e40⟩ := d40.use X G
  have B40 := F40.binds (ps := ["row", "order"]) fun _ _ _ _ _ _ us hl => match us, hl with | [_, _], _ => rfl
  obtain ⟨f41, v41, F41, g41, p41, e41⟩ := d41.use X G
  have B41 := F41.binds (ps := ["row", "order"]) fun _ _ _ _ _ _ us hl => match us, hl with | [_, _], _ => rfl
  obtain ⟨f42, v42, F42, g42, p42, e42⟩ := d42.use X G
  have B42 := F42.binds (ps := ["row", "order"]) fun _ _ _ _ _ _ us hl => match us, hl with | [_, _], _ => rfl
  obtain ⟨f43, v43, F43, g43, p43, e43⟩ := d43.use X G
  have B43 := F43.binds (ps := ["row", "order"]) fun _ _ _ _ _ _ us hl => match us, hl with | [_, _], _ => rfl
  obtain ⟨f46, v46, F46, g46, p46, e46⟩ := d46.use X G
  have B46 := F46.binds (ps := ["row", "order"]) fun _ _ _ _ _ _ us hl => match us, hl with | [_, _], _ => rfl
  obtain ⟨f47, v47, F47, g47, p47, e47⟩ := d47.use X G
  have B47 := F47.binds (ps := ["row", "order"]) fun _ _ _ _ _ _ us hl => match us, hl with | [_, _], _ => rfl
  obtain ⟨f21, v21, F21, g21, p21, e21⟩ := d21.use X G
  have B21 := F21.binds (ps := ["row", "order", "person"]) fun _ _ _ _ _ _ us hl => match us, hl with | [_, _, _], _ => rfl
  obtain ⟨f22, v22, F22, g22, p22, e22⟩ := d22.use X G
  have B22 := F22.binds (ps := ["row", "order", "one", "other"]) fun _ _ _ _ _ _ us hl => match us, hl with | [_, _, _, _], _ => rfl
  obtain ⟨f58, v58, F58, g58, p58, e58⟩ := d58.use X G
  have B58 := F58.binds (ps := ["_law_crank_here", "_law_row_here", "_law_word_here"]) fun _ _ _ _ _ _ us hl => match us, hl with | [_, _, _], _ => rfl
  obtain ⟨f55, v55, F55, g55, p55, e55⟩ := d55.use X G
  have B55 := F55.binds (ps := ["_law_crank_here", "_law_row_here", "_law_to_end"]) fun _ _ _ _ _ _ us hl => match us, hl with | [_, _, _], _ => rfl
  obtain ⟨C_NoOrder, R_NoOrder⟩ := R_NoOrder.ex
  obtain ⟨C_Impossible, R_Impossible⟩ := R_Impossible.ex
  obtain ⟨C_NoPerson, R_NoPerson⟩ := R_NoPerson.ex
  obtain ⟨C_Limits, KC_Limits⟩ := KL_Limits.ex
  obtain ⟨C_Table, KC_Table⟩ := KL_Table.ex
  have k_NoOrder : (clsOf [("NoOrder", C_NoOrder), ("Impossible", C_Impossible), ("NoPerson", C_NoPerson), ("Limits", C_Limits), ("Table", C_Table)] fa) "NoOrder" = C_NoOrder := clsOf_hd
  have k_Impossible : (clsOf [("NoOrder", C_NoOrder), ("Impossible", C_Impossible), ("NoPerson", C_NoPerson), ("Limits", C_Limits), ("Table", C_Table)] fa) "Impossible" = C_Impossible := (clsOf_tl (by decide +kernel)).trans (clsOf_hd)
  have k_NoPerson : (clsOf [("NoOrder", C_NoOrder), ("Impossible", C_Impossible), ("NoPerson", C_NoPerson), ("Limits", C_Limits), ("Table", C_Table)] fa) "NoPerson" = C_NoPerson := (clsOf_tl (by decide +kernel)).trans ((clsOf_tl (by decide +kernel)).trans (clsOf_hd))
  have k_Limits : (clsOf [("NoOrder", C_NoOrder), ("Impossible", C_Impossible), ("NoPerson", C_NoPerson), ("Limits", C_Limits), ("Table", C_Table)] fa) "Limits" = C_Limits := (clsOf_tl (by decide +kernel)).trans ((clsOf_tl (by decide +kernel)).trans ((clsOf_tl (by decide +kernel)).trans (clsOf_hd)))
  have k_Table : (clsOf [("NoOrder", C_NoOrder), ("Impossible", C_Impossible), ("NoPerson", C_NoPerson), ("Limits", C_Limits), ("Table", C_Table)] fa) "Table" = C_Table := (clsOf_tl (by decide +kernel)).trans ((clsOf_tl (by decide +kernel)).trans ((clsOf_tl (by decide +kernel)).trans ((clsOf_tl (by decide +kernel)).trans (clsOf_hd))))
  refine ⟨PySem.W.fnOf "law" "law" (defArgs (topS 59)) (defBody (topS 59)) (defScope (topS 59)) .none kV doc pm an cdv ct, fun s v => .of_eq rfl, fun base _ _ => ?_⟩
  have O50 : FnOk l.prog w K mg base (L2.CX l.prog w) 1 f50 v50 ["_law_crank_here", "_law_many"] spWind := ok_wind F50
  have O49 : FnOk l.prog w K mg base (L2.CX l.prog w) 1 f49 v49 ["_law_script"] (spCrank K) := ok_crank (k := 0) F49 y_len
  refine lawX (fun x : Addr × Addr => crankB (clsOf [("NoOrder", C_NoOrder), ("Impossible", C_Impossible), ("NoPerson", C_NoPerson), ("Limits", C_Limits), ("Table", C_Table)] fa) x.1 x.2) (fun x => x.1) (fun a ns H Q E h1 h2 h3 => ⟨a, ns, rfl, h1, h2, fun r l H2 _ hg => h3 (r, l) H2 hg⟩) (i := 1) (k := 12) (t := fun x => t_law (S_c_row x.1) (S_law_right x.1) (S_c_word x.1)) (fun_mk (st := topS 59) ql qc qp) sc_law rfl O49 g49 p49 B49 (by omega) (by decide) rfl rfl (by first | exact .inl rfl | exact .inr rfl) rfl rfl (fun ⟨r, l1⟩ cdv A outer s H E hr hgd tk => ?_) (fun x => l_law x.1)
  have RZ_NoOrder : RaiB K ((crankB (clsOf [("NoOrder", C_NoOrder), ("Impossible", C_Impossible), ("NoPerson", C_NoPerson), ("Limits", C_Limits), ("Table", C_Table)] fa) r l1).cls "NoOrder") "NoOrder" ∧ PySem.W.excIn K ((crankB (clsOf [("NoOrder", C_NoOrder), ("Impossible", C_Impossible), ("NoPerson", C_NoPerson), ("Limits", C_Limits), ("Table", C_Table)] fa) r l1).cls "NoOrder") veB "ValueError.__new__" = true := by
    show RaiB K ((clsOf [("NoOrder", C_NoOrder), ("Impossible", C_Impossible), ("NoPerson", C_NoPerson), ("Limits", C_Limits), ("Table", C_Table)] fa) "NoOrder") _ ∧ PySem.W.excIn K ((clsOf [("NoOrder", C_NoOrder), ("Impossible", C_Impossible), ("NoPerson", C_NoPerson), ("Limits", C_Limits), ("Table", C_Table)] fa) "NoOrder") _ _ = true
    rw [k_NoOrder]; exact R_NoOrder
  have RB_NoOrder := RZ_NoOrder.1
  have M_NoOrder := RB_NoOrder.mk0 RZ_NoOrder.2 X G
  have RZ_Impossible : RaiB K ((crankB (clsOf [("NoOrder", C_NoOrder), ("Impossible", C_Impossible), ("NoPerson", C_NoPerson), ("Limits", C_Limits), ("Table", C_Table)] fa) r l1).cls "Impossible") "Impossible" ∧ PySem.W.excIn K ((crankB (clsOf [("NoOrder", C_NoOrder), ("Impossible", C_Impossible), ("NoPerson", C_NoPerson), ("Limits", C_Limits), ("Table", C_Table)] fa) r l1).cls "Impossible") veB "ValueError.__new__" = true := by
    show RaiB K ((clsOf [("NoOrder", C_NoOrder), ("Impossible", C_Impossible), ("NoPerson", C_NoPerson), ("Limits", C_Limits), ("Table", C_Table)] fa) "Impossible") _ ∧ PySem.W.excIn K ((clsOf [("NoOrder", C_NoOrder), ("Impossible", C_Impossible), ("NoPerson", C_NoPerson), ("Limits", C_Limits), ("Table", C_Table)] fa) "Impossible") _ _ = true
    rw [k_Impossible]; exact R_Impossible
  have RB_Impossible := RZ_Impossible.1
  have M_Impossible := RB_Impossible.mk0 RZ_Impossible.2 X G
  have RI_NoPerson : RaiI K ((crankB (clsOf [("NoOrder", C_NoOrder), ("Impossible", C_Impossible), ("NoPerson", C_NoPerson), ("Limits", C_Limits), ("Table", C_Table)] fa) r l1).cls "NoPerson") "NoPerson" "NoPerson.__init__" "value" s_NoPerson := by
    show RaiI K ((clsOf [("NoOrder", C_NoOrder), ("Impossible", C_Impossible), ("NoPerson", C_NoPerson), ("Limits", C_Limits), ("Table", C_Table)] fa) "NoPerson") _ _ _ _
    rw [k_NoPerson]; exact R_NoPerson
  have RB_NoPerson := RI_NoPerson.b
  obtain ⟨M_NoPerson⟩ := RI_NoPerson.mk1 (P := l.prog) (w := w) (base := base) (prm := "value") X G (fun fa fd F => wi_NoPerson F) (fun _ _ _ _ _ _ us hl => match us, hl with | [_, _], _ => rfl)
  have RL_Limits : ClsB K ((crankB (clsOf [("NoOrder", C_NoOrder), ("Impossible", C_Impossible), ("NoPerson", C_NoPerson), ("Limits", C_Limits), ("Table", C_Table)] fa) r l1).cls "Limits") "Limits" "Limits.__init__" s_Limits_init := by
    show ClsB K ((clsOf [("NoOrder", C_NoOrder), ("Impossible", C_Impossible), ("NoPerson", C_NoPerson), ("Limits", C_Limits), ("Table", C_Table)] fa) "Limits") _ _ _
    rw [k_Limits]; exact KC_Limits
  have CL_Limits := RL_Limits.c
  obtain ⟨f20000, v20000, F20000, MK20000⟩ := RL_Limits.ini
  have B20000 := F20000.binds (ps := ["self", "row", "order"]) fun _ _ _ _ _ _ us hl => match us, hl with | [_, _, _], _ => rfl
  have RL_Table : ClsB K ((crankB (clsOf [("NoOrder", C_NoOrder), ("Impossible", C_Impossible), ("NoPerson", C_NoPerson), ("Limits", C_Limits), ("Table", C_Table)] fa) r l1).cls "Table") "Table" "Table.__init__" s_Table_init := by
    show ClsB K ((clsOf [("NoOrder", C_NoOrder), ("Impossible", C_Impossible), ("NoPerson", C_NoPerson), ("Limits", C_Limits), ("Table", C_Table)] fa) "Table") _ _ _
    rw [k_Table]; exact KC_Table
  have CL_Table := RL_Table.c
  obtain ⟨f46000, v46000, F46000, MK46000⟩ := RL_Table.ini
  have B46000 := F46000.binds (ps := ["self", "row", "order"]) fun _ _ _ _ _ _ us hl => match us, hl with | [_, _, _], _ => rfl
  have NA_Limits_places := KN_Limits_places.at RL_Limits.ns
  have NA_Limits_mates := KN_Limits_mates.at RL_Limits.ns
  have NA_Limits_lows := KN_Limits_lows.at RL_Limits.ns
  have NA_Limits_highs := KN_Limits_highs.at RL_Limits.ns
  have NA_Table_lows := KN_Table_lows.at RL_Table.ns
  have NA_Table_highs := KN_Table_highs.at RL_Table.ns
  have NA_Table_numbers := KN_Table_numbers.at RL_Table.ns
  obtain ⟨f20001, v20001, F20001, MT20001⟩ := KM_Limits_meeting.at RL_Limits.ns
  have B20001 := F20001.binds (ps := ["self", "one", "other"]) fun _ _ _ _ _ _ us hl => match us, hl with | [_, _, _], _ => rfl
  obtain ⟨f20003, v20003, F20003, MT20003⟩ := KM_Limits_joining.at RL_Limits.ns
  have B20003 := F20003.binds (ps := ["self", "word"]) fun _ _ _ _ _ _ us hl => match us, hl with | [_, _], _ => rfl
  obtain ⟨f20002, v20002, F20002, MT20002⟩ := KM_Limits_met.at RL_Limits.ns
  have B20002 := F20002.binds (ps := ["self", "person", "word"]) fun _ _ _ _ _ _ us hl => match us, hl with | [_, _, _], _ => rfl
  have EB : ∀ n ∈ (["NoOrder", "Impossible", "NoPerson"] : List Str), RaiB K ((crankB (clsOf [("NoOrder", C_NoOrder), ("Impossible", C_Impossible), ("NoPerson", C_NoPerson), ("Limits", C_Limits), ("Table", C_Table)] fa) r l1).cls n) n := fun n hn => by
    simp only [List.mem_cons, List.not_mem_nil, or_false] at hn
    rcases hn with rfl | rfl | rfl
    · exact RB_NoOrder
    · exact RB_Impossible
    · exact RB_NoPerson
  have EC : ∀ n ∈ (["NoOrder", "Impossible", "NoPerson"] : List Str), ErrC K ((crankB (clsOf [("NoOrder", C_NoOrder), ("Impossible", C_Impossible), ("NoPerson", C_NoPerson), ("Limits", C_Limits), ("Table", C_Table)] fa) r l1).cls n) := fun n hn => (EB n hn).ec
  have C50 : Cal l.prog w K mg base (crankB (clsOf [("NoOrder", C_NoOrder), ("Impossible", C_Impossible), ("NoPerson", C_NoPerson), ("Limits", C_Limits), ("Table", C_Table)] fa) r l1) 1 "_law_wind" ["_law_crank_here", "_law_many"] (svTake r) := ⟨f50, v50, (wind_v (cls := (clsOf [("NoOrder", C_NoOrder), ("Impossible", C_Impossible), ("NoPerson", C_NoPerson), ("Limits", C_Limits), ("Table", C_Table)] fa)) (r := r) O50), g50, p50, B50⟩
  have C51 : Cal l.prog w K mg base (crankB (clsOf [("NoOrder", C_NoOrder), ("Impossible", C_Impossible), ("NoPerson", C_NoPerson), ("Limits", C_Limits), ("Table", C_Table)] fa) r l1) 2 "_law_row" ["_law_crank_here", "_law_size"] (S_c_row r) := ⟨f51, v51, w_c_row F51 C50 y_tuple y_range (fun ds Q E h => by first | (simp only [S_c_row] at h; split at h <;> first | rfl | exact h.elim) | (obtain ⟨rfl, _⟩ := h; rfl) | (obtain ⟨_, rfl, _⟩ := h; rfl) | (obtain ⟨_, _, rfl, _⟩ := h; rfl) | (obtain ⟨_, _, _, rfl, _⟩ := h; rfl) | (obtain ⟨_, _, _, _, rfl, _⟩ := h; rfl) | (obtain ⟨_, _, _, _, _, rfl, _⟩ := h; rfl) | (obtain ⟨_, _, _, _, _, _, rfl, _⟩ := h; rfl)) (l_c_row r), g51, p51, B51⟩
  have C9 : Cal l.prog w K mg base (crankB (clsOf [("NoOrder", C_NoOrder), ("Impossible", C_Impossible), ("NoPerson", C_NoPerson), ("Limits", C_Limits), ("Table", C_Table)] fa) r l1) 1 "is_integer" ["value", "low", "high"] S_is_integer := ⟨f9, v9, w_is_integer F9 y_isinstance y_bool y_int (fun ds Q E h => by first | (simp only [S_is_integer] at h; split at h <;> first | rfl | exact h.elim) | (obtain ⟨rfl, _⟩ := h; rfl) | (obtain ⟨_, rfl, _⟩ := h; rfl) | (obtain ⟨_, _, rfl, _⟩ := h; rfl) | (obtain ⟨_, _, _, rfl, _⟩ := h; rfl) | (obtain ⟨_, _, _, _, rfl, _⟩ := h; rfl) | (obtain ⟨_, _, _, _, _, rfl, _⟩ := h; rfl) | (obtain ⟨_, _, _, _, _, _, rfl, _⟩ := h; rfl)) l_is_integer, g9, p9, B9⟩
  have C16 : Cal l.prog w K mg base (crankB (clsOf [("NoOrder", C_NoOrder), ("Impossible", C_Impossible), ("NoPerson", C_NoPerson), ("Limits", C_Limits), ("Table", C_Table)] fa) r l1) 2 "places_in_measures" ["row", "order"] S_m_places_in := ⟨f16, v16, w_m_places_in F16 C9 y_len y_isinstance y_tuple y_all y_set y_range M_NoOrder (fun ds Q E h => by first | (simp only [S_m_places_in] at h; split at h <;> first | rfl | exact h.elim) | (obtain ⟨rfl, _⟩ := h; rfl) | (obtain ⟨_, rfl, _⟩ := h; rfl) | (obtain ⟨_, _, rfl, _⟩ := h; rfl) | (obtain ⟨_, _, _, rfl, _⟩ := h; rfl) | (obtain ⟨_, _, _, _, rfl, _⟩ := h; rfl) | (obtain ⟨_, _, _, _, _, rfl, _⟩ := h; rfl) | (obtain ⟨_, _, _, _, _, _, rfl, _⟩ := h; rfl)) l_m_places_in, g16, p16, B16⟩
  have C10 : Cal l.prog w K mg base (crankB (clsOf [("NoOrder", C_NoOrder), ("Impossible", C_Impossible), ("NoPerson", C_NoPerson), ("Limits", C_Limits), ("Table", C_Table)] fa) r l1) 1 "mates" ["row"] S_mates := ⟨f10, v10, w_mates F10 y_enumerate y_tuple (fun ds Q E h => by first | (simp only [S_mates] at h; split at h <;> first | rfl | exact h.elim) | (obtain ⟨rfl, _⟩ := h; rfl) | (obtain ⟨_, rfl, _⟩ := h; rfl) | (obtain ⟨_, _, rfl, _⟩ := h; rfl) | (obtain ⟨_, _, _, rfl, _⟩ := h; rfl) | (obtain ⟨_, _, _, _, rfl, _⟩ := h; rfl) | (obtain ⟨_, _, _, _, _, rfl, _⟩ := h; rfl) | (obtain ⟨_, _, _, _, _, _, rfl, _⟩ := h; rfl)) l_mates, g10, p10, B10⟩
  have C18 : Cal l.prog w K mg base (crankB (clsOf [("NoOrder", C_NoOrder), ("Impossible", C_Impossible), ("NoPerson", C_NoPerson), ("Limits", C_Limits), ("Table", C_Table)] fa) r l1) 1 "bounds_for" ["person", "places", "mate"] S_bounds_for := ⟨f18, v18, w_bounds_for F18 y_all M_Impossible (fun ds Q E h => by first | (simp only [S_bounds_for] at h; split at h <;> first | rfl | exact h.elim) | (obtain ⟨rfl, _⟩ := h; rfl) | (obtain ⟨_, rfl, _⟩ := h; rfl) | (obtain ⟨_, _, rfl, _⟩ := h; rfl) | (obtain ⟨_, _, _, rfl, _⟩ := h; rfl) | (obtain ⟨_, _, _, _, rfl, _⟩ := h; rfl) | (obtain ⟨_, _, _, _, _, rfl, _⟩ := h; rfl) | (obtain ⟨_, _, _, _, _, _, rfl, _⟩ := h; rfl)) l_bounds_for, g18, p18, B18⟩
  have C20000 : CalI l.prog w K mg base (crankB (clsOf [("NoOrder", C_NoOrder), ("Impossible", C_Impossible), ("NoPerson", C_NoPerson), ("Limits", C_Limits), ("Table", C_Table)] fa) r l1) 3 "Limits" ["self", "row", "order"] S_Limits_init := ⟨f20000, v20000, w_Limits_init F20000 C16 C10 C18 y_enumerate y_range y_len y_max y_min y_any y_zip CL_Limits NA_Limits_places NA_Limits_mates NA_Limits_lows NA_Limits_highs M_Impossible (fun ds Q E h => by first | (simp only [S_Limits_init] at h; split at h <;> first | rfl | exact h.elim) | (obtain ⟨rfl, _⟩ := h; rfl) | (obtain ⟨_, rfl, _⟩ := h; rfl) | (obtain ⟨_, _, rfl, _⟩ := h; rfl) | (obtain ⟨_, _, _, rfl, _⟩ := h; rfl) | (obtain ⟨_, _, _, _, rfl, _⟩ := h; rfl) | (obtain ⟨_, _, _, _, _, rfl, _⟩ := h; rfl) | (obtain ⟨_, _, _, _, _, _, rfl, _⟩ := h; rfl)) l_Limits_init, MK20000, PySem.W.mg_of X G RL_Limits.ns, B20000⟩
  have C20001 : CalM l.prog w K mg base (crankB (clsOf [("NoOrder", C_NoOrder), ("Impossible", C_Impossible), ("NoPerson", C_NoPerson), ("Limits", C_Limits), ("Table", C_Table)] fa) r l1) 1 "Limits" "meeting" ["self", "one", "other"] S_Limits_meeting := ⟨f20001, v20001, w_Limits_meeting F20001 ⟨_, c0⟩ ⟨_, c1⟩ ⟨_, c2⟩ CL_Limits NA_Limits_lows NA_Limits_places NA_Limits_highs (fun ds Q E h => by first | (simp only [S_Limits_meeting] at h; split at h <;> first | rfl | exact h.elim) | (obtain ⟨rfl, _⟩ := h; rfl) | (obtain ⟨_, rfl, _⟩ := h; rfl) | (obtain ⟨_, _, rfl, _⟩ := h; rfl) | (obtain ⟨_, _, _, rfl, _⟩ := h; rfl) | (obtain ⟨_, _, _, _, rfl, _⟩ := h; rfl) | (obtain ⟨_, _, _, _, _, rfl, _⟩ := h; rfl) | (obtain ⟨_, _, _, _, _, _, rfl, _⟩ := h; rfl)) l_Limits_meeting, CL_Limits, MT20001, B20001⟩
  have C20003 : CalM l.prog w K mg base (crankB (clsOf [("NoOrder", C_NoOrder), ("Impossible", C_Impossible), ("NoPerson", C_NoPerson), ("Limits", C_Limits), ("Table", C_Table)] fa) r l1) 2 "Limits" "joining" ["self", "word"] S_Limits_joining := ⟨f20003, v20003, w_Limits_joining F20003 C20001 y_enumerate y_tuple CL_Limits NA_Limits_mates (fun ds Q E h => by first | (simp only [S_Limits_joining] at h; split at h <;> first | rfl | exact h.elim) | (obtain ⟨rfl, _⟩ := h; rfl) | (obtain ⟨_, rfl, _⟩ := h; rfl) | (obtain ⟨_, _, rfl, _⟩ := h; rfl) | (obtain ⟨_, _, _, rfl, _⟩ := h; rfl) | (obtain ⟨_, _, _, _, rfl, _⟩ := h; rfl) | (obtain ⟨_, _, _, _, _, rfl, _⟩ := h; rfl) | (obtain ⟨_, _, _, _, _, _, rfl, _⟩ := h; rfl)) l_Limits_joining, CL_Limits, MT20003, B20003⟩
  have C24 : Cal l.prog w K mg base (crankB (clsOf [("NoOrder", C_NoOrder), ("Impossible", C_Impossible), ("NoPerson", C_NoPerson), ("Limits", C_Limits), ("Table", C_Table)] fa) r l1) 5 "joiners" ["row", "order"] S_joiners := ⟨f24, v24, w_joiners F24 C20000 C20003 ⟨_, c1⟩ ⟨_, c2⟩ (fun ds Q E h => by first | (simp only [S_joiners] at h; split at h <;> first | rfl | exact h.elim) | (obtain ⟨rfl, _⟩ := h; rfl) | (obtain ⟨_, rfl, _⟩ := h; rfl) | (obtain ⟨_, _, rfl, _⟩ := h; rfl) | (obtain ⟨_, _, _, rfl, _⟩ := h; rfl) | (obtain ⟨_, _, _, _, rfl, _⟩ := h; rfl) | (obtain ⟨_, _, _, _, _, rfl, _⟩ := h; rfl) | (obtain ⟨_, _, _, _, _, _, rfl, _⟩ := h; rfl)) l_joiners, g24, p24, B24⟩
  have C52 : Cal l.prog w K mg base (crankB (clsOf [("NoOrder", C_NoOrder), ("Impossible", C_Impossible), ("NoPerson", C_NoPerson), ("Limits", C_Limits), ("Table", C_Table)] fa) r l1) 1 "_law_mates" ["_law_row_here"] S_c_mates := ⟨f52, v52, w_c_mates F52 y_range y_len (fun ds Q E h => by first | (simp only [S_c_mates] at h; split at h <;> first | rfl | exact h.elim) | (obtain ⟨rfl, _⟩ := h; rfl) | (obtain ⟨_, rfl, _⟩ := h; rfl) | (obtain ⟨_, _, rfl, _⟩ := h; rfl) | (obtain ⟨_, _, _, rfl, _⟩ := h; rfl) | (obtain ⟨_, _, _, _, rfl, _⟩ := h; rfl) | (obtain ⟨_, _, _, _, _, rfl, _⟩ := h; rfl) | (obtain ⟨_, _, _, _, _, _, rfl, _⟩ := h; rfl)) l_c_mates, g52, p52, B52⟩
  have C53 : Cal l.prog w K mg base (crankB (clsOf [("NoOrder", C_NoOrder), ("Impossible", C_Impossible), ("NoPerson", C_NoPerson), ("Limits", C_Limits), ("Table", C_Table)] fa) r l1) 1 "_law_come" ["_law_waiting", "_law_person", "_law_mate"] S_c_come := ⟨f53, v53, w_c_come F53 (fun ds Q E h => by first | (simp only [S_c_come] at h; split at h <;> first | rfl | exact h.elim) | (obtain ⟨rfl, _⟩ := h; rfl) | (obtain ⟨_, rfl, _⟩ := h; rfl) | (obtain ⟨_, _, rfl, _⟩ := h; rfl) | (obtain ⟨_, _, _, rfl, _⟩ := h; rfl) | (obtain ⟨_, _, _, _, rfl, _⟩ := h; rfl) | (obtain ⟨_, _, _, _, _, rfl, _⟩ := h; rfl) | (obtain ⟨_, _, _, _, _, _, rfl, _⟩ := h; rfl)) l_c_come, g53, p53, B53⟩
  have C54 : Cal l.prog w K mg base (crankB (clsOf [("NoOrder", C_NoOrder), ("Impossible", C_Impossible), ("NoPerson", C_NoPerson), ("Limits", C_Limits), ("Table", C_Table)] fa) r l1) 2 "_law_play" ["_law_row_here", "_law_word_here"] S_c_play := ⟨f54, v54, w_c_play F54 C52 C53 (fun ds Q E h => by first | (simp only [S_c_play] at h; split at h <;> first | rfl | exact h.elim) | (obtain ⟨rfl, _⟩ := h; rfl) | (obtain ⟨_, rfl, _⟩ := h; rfl) | (obtain ⟨_, _, rfl, _⟩ := h; rfl) | (obtain ⟨_, _, _, rfl, _⟩ := h; rfl) | (obtain ⟨_, _, _, _, rfl, _⟩ := h; rfl) | (obtain ⟨_, _, _, _, _, rfl, _⟩ := h; rfl) | (obtain ⟨_, _, _, _, _, _, rfl, _⟩ := h; rfl)) l_c_play, g54, p54, B54⟩
  have C56 : Cal l.prog w K mg base (crankB (clsOf [("NoOrder", C_NoOrder), ("Impossible", C_Impossible), ("NoPerson", C_NoPerson), ("Limits", C_Limits), ("Table", C_Table)] fa) r l1) 3 "_law_order" ["_law_row_here", "_law_word_here"] S_c_order := ⟨f56, v56, w_c_order F56 C54 y_tuple (fun ds Q E h => by first | (simp only [S_c_order] at h; split at h <;> first | rfl | exact h.elim) | (obtain ⟨rfl, _⟩ := h; rfl) | (obtain ⟨_, rfl, _⟩ := h; rfl) | (obtain ⟨_, _, rfl, _⟩ := h; rfl) | (obtain ⟨_, _, _, rfl, _⟩ := h; rfl) | (obtain ⟨_, _, _, _, rfl, _⟩ := h; rfl) | (obtain ⟨_, _, _, _, _, rfl, _⟩ := h; rfl) | (obtain ⟨_, _, _, _, _, _, rfl, _⟩ := h; rfl)) l_c_order, g56, p56, B56⟩
  have C57 : Cal l.prog w K mg base (crankB (clsOf [("NoOrder", C_NoOrder), ("Impossible", C_Impossible), ("NoPerson", C_NoPerson), ("Limits", C_Limits), ("Table", C_Table)] fa) r l1) 3 "_law_met" ["_law_row_here", "_law_word_here"] S_law_met := ⟨f57, v57, w_law_met F57 C54 y_tuple y_sorted (fun ds Q E h => by first | (simp only [S_law_met] at h; split at h <;> first | rfl | exact h.elim) | (obtain ⟨rfl, _⟩ := h; rfl) | (obtain ⟨_, rfl, _⟩ := h; rfl) | (obtain ⟨_, _, rfl, _⟩ := h; rfl) | (obtain ⟨_, _, _, rfl, _⟩ := h; rfl) | (obtain ⟨_, _, _, _, rfl, _⟩ := h; rfl) | (obtain ⟨_, _, _, _, _, rfl, _⟩ := h; rfl) | (obtain ⟨_, _, _, _, _, _, rfl, _⟩ := h; rfl)) l_law_met, g57, p57, B57⟩
  have C20 : CalR l.prog w K mg base (crankB (clsOf [("NoOrder", C_NoOrder), ("Impossible", C_Impossible), ("NoPerson", C_NoPerson), ("Limits", C_Limits), ("Table", C_Table)] fa) r l1) 3 "check_persons" (svStarN 2 S_check_persons) := ⟨f20, w_check_persons F20 C16 C9 y_len M_NoPerson (fun ds Q E h => by first | (simp only [S_check_persons] at h; split at h <;> first | rfl | exact h.elim) | (obtain ⟨rfl, _⟩ := h; rfl) | (obtain ⟨_, rfl, _⟩ := h; rfl) | (obtain ⟨_, _, rfl, _⟩ := h; rfl) | (obtain ⟨_, _, _, rfl, _⟩ := h; rfl) | (obtain ⟨_, _, _, _, rfl, _⟩ := h; rfl) | (obtain ⟨_, _, _, _, _, rfl, _⟩ := h; rfl) | (obtain ⟨_, _, _, _, _, _, rfl, _⟩ := h; rfl)) l_check_persons, g20, p20⟩
  have C20002 : CalM l.prog w K mg base (crankB (clsOf [("NoOrder", C_NoOrder), ("Impossible", C_Impossible), ("NoPerson", C_NoPerson), ("Limits", C_Limits), ("Table", C_Table)] fa) r l1) 2 "Limits" "met" ["self", "person", "word"] S_Limits_met := ⟨f20002, v20002, w_Limits_met F20002 C20001 y_tuple y_range (fun ds Q E h => by first | (simp only [S_Limits_met] at h; split at h <;> first | rfl | exact h.elim) | (obtain ⟨rfl, _⟩ := h; rfl) | (obtain ⟨_, rfl, _⟩ := h; rfl) | (obtain ⟨_, _, rfl, _⟩ := h; rfl) | (obtain ⟨_, _, _, rfl, _⟩ := h; rfl) | (obtain ⟨_, _, _, _, rfl, _⟩ := h; rfl) | (obtain ⟨_, _, _, _, _, rfl, _⟩ := h; rfl) | (obtain ⟨_, _, _, _, _, _, rfl, _⟩ := h; rfl)) l_Limits_met, CL_Limits, MT20002, B20002⟩
  have C23 : Cal l.prog w K mg base (crankB (clsOf [("NoOrder", C_NoOrder), ("Impossible", C_Impossible), ("NoPerson", C_NoPerson), ("Limits", C_Limits), ("Table", C_Table)] fa) r l1) 5 "met_by" ["row", "order", "person"] S_met_by := ⟨f23, v23, w_met_by F23 C20 C20000 C20002 ⟨_, c1⟩ ⟨_, c2⟩ (fun ds Q E h => by first | (simp only [S_met_by] at h; split at h <;> first | rfl | exact h.elim) | (obtain ⟨rfl, _⟩ := h; rfl) | (obtain ⟨_, rfl, _⟩ := h; rfl) | (obtain ⟨_, _, rfl, _⟩ := h; rfl) | (obtain ⟨_, _, _, rfl, _⟩ := h; rfl) | (obtain ⟨_, _, _, _, rfl, _⟩ := h; rfl) | (obtain ⟨_, _, _, _, _, rfl, _⟩ := h; rfl) | (obtain ⟨_, _, _, _, _, _, rfl, _⟩ := h; rfl)) l_met_by, g23, p23, B23⟩
  have C11 : Cal l.prog w K mg base (crankB (clsOf [("NoOrder", C_NoOrder), ("Impossible", C_Impossible), ("NoPerson", C_NoPerson), ("Limits", C_Limits), ("Table", C_Table)] fa) r l1) 1 "word_with" ["counts"] S_word_with := ⟨f11, v11, w_word_with F11 ⟨_, c3⟩ ⟨_, c4⟩ y_len (fun ds Q E h => by first | (simp only [S_word_with] at h; split at h <;> first | rfl | exact h.elim) | (obtain ⟨rfl, _⟩ := h; rfl) | (obtain ⟨_, rfl, _⟩ := h; rfl) | (obtain ⟨_, _, rfl, _⟩ := h; rfl) | (obtain ⟨_, _, _, rfl, _⟩ := h; rfl) | (obtain ⟨_, _, _, _, rfl, _⟩ := h; rfl) | (obtain ⟨_, _, _, _, _, rfl, _⟩ := h; rfl) | (obtain ⟨_, _, _, _, _, _, rfl, _⟩ := h; rfl)) l_word_with, g11, p11, B11⟩
  have C30 : Cal l.prog w K mg base (crankB (clsOf [("NoOrder", C_NoOrder), ("Impossible", C_Impossible), ("NoPerson", C_NoPerson), ("Limits", C_Limits), ("Table", C_Table)] fa) r l1) 1 "is_number" ["value", "low", "high"] S_is_number := ⟨f30, v30, w_is_number F30 y_isinstance y_bool y_int (fun ds Q E h => by first | (simp only [S_is_number] at h; split at h <;> first | rfl | exact h.elim) | (obtain ⟨rfl, _⟩ := h; rfl) | (obtain ⟨_, rfl, _⟩ := h; rfl) | (obtain ⟨_, _, rfl, _⟩ := h; rfl) | (obtain ⟨_, _, _, rfl, _⟩ := h; rfl) | (obtain ⟨_, _, _, _, rfl, _⟩ := h; rfl) | (obtain ⟨_, _, _, _, _, rfl, _⟩ := h; rfl) | (obtain ⟨_, _, _, _, _, _, rfl, _⟩ := h; rfl)) l_is_number, g30, p30, B30⟩
  have C31 : Cal l.prog w K mg base (crankB (clsOf [("NoOrder", C_NoOrder), ("Impossible", C_Impossible), ("NoPerson", C_NoPerson), ("Limits", C_Limits), ("Table", C_Table)] fa) r l1) 2 "is_order" ["row", "value"] S_is_order := ⟨f31, v31, w_is_order F31 C30 y_isinstance y_tuple y_len y_set y_all (fun ds Q E h => by first | (simp only [S_is_order] at h; split at h <;> first | rfl | exact h.elim) | (obtain ⟨rfl, _⟩ := h; rfl) | (obtain ⟨_, rfl, _⟩ := h; rfl) | (obtain ⟨_, _, rfl, _⟩ := h; rfl) | (obtain ⟨_, _, _, rfl, _⟩ := h; rfl) | (obtain ⟨_, _, _, _, rfl, _⟩ := h; rfl) | (obtain ⟨_, _, _, _, _, rfl, _⟩ := h; rfl) | (obtain ⟨_, _, _, _, _, _, rfl, _⟩ := h; rfl)) l_is_order, g31, p31, B31⟩
  have C32 : Cal l.prog w K mg base (crankB (clsOf [("NoOrder", C_NoOrder), ("Impossible", C_Impossible), ("NoPerson", C_NoPerson), ("Limits", C_Limits), ("Table", C_Table)] fa) r l1) 3 "require_order" ["row", "value"] S_require_order := ⟨f32, v32, w_require_order F32 C31 M_NoOrder (fun ds Q E h => by first | (simp only [S_require_order] at h; split at h <;> first | rfl | exact h.elim) | (obtain ⟨rfl, _⟩ := h; rfl) | (obtain ⟨_, rfl, _⟩ := h; rfl) | (obtain ⟨_, _, rfl, _⟩ := h; rfl) | (obtain ⟨_, _, _, rfl, _⟩ := h; rfl) | (obtain ⟨_, _, _, _, rfl, _⟩ := h; rfl) | (obtain ⟨_, _, _, _, _, rfl, _⟩ := h; rfl) | (obtain ⟨_, _, _, _, _, _, rfl, _⟩ := h; rfl)) l_require_order, g32, p32, B32⟩
  have C33 : Cal l.prog w K mg base (crankB (clsOf [("NoOrder", C_NoOrder), ("Impossible", C_Impossible), ("NoPerson", C_NoPerson), ("Limits", C_Limits), ("Table", C_Table)] fa) r l1) 1 "places_in_orders" ["order"] S_places_in := ⟨f33, v33, w_places_in F33 y_len y_enumerate (fun ds Q E h => by first | (simp only [S_places_in] at h; split at h <;> first | rfl | exact h.elim) | (obtain ⟨rfl, _⟩ := h; rfl) | (obtain ⟨_, rfl, _⟩ := h; rfl) | (obtain ⟨_, _, rfl, _⟩ := h; rfl) | (obtain ⟨_, _, _, rfl, _⟩ := h; rfl) | (obtain ⟨_, _, _, _, rfl, _⟩ := h; rfl) | (obtain ⟨_, _, _, _, _, rfl, _⟩ := h; rfl) | (obtain ⟨_, _, _, _, _, _, rfl, _⟩ := h; rfl)) l_places_in, g33, p33, B33⟩
  have C35 : Cal l.prog w K mg base (crankB (clsOf [("NoOrder", C_NoOrder), ("Impossible", C_Impossible), ("NoPerson", C_NoPerson), ("Limits", C_Limits), ("Table", C_Table)] fa) r l1) 1 "kind_of" ["is_near", "is_ahead"] S_kind_of := ⟨f35, v35, w_kind_of F35 ⟨_, c5⟩ ⟨_, c6⟩ ⟨_, c7⟩ ⟨_, c8⟩ (fun ds Q E h => by first | (simp only [S_kind_of] at h; split at h <;> first | rfl | exact h.elim) | (obtain ⟨rfl, _⟩ := h; rfl) | (obtain ⟨_, rfl, _⟩ := h; rfl) | (obtain ⟨_, _, rfl, _⟩ := h; rfl) | (obtain ⟨_, _, _, rfl, _⟩ := h; rfl) | (obtain ⟨_, _, _, _, rfl, _⟩ := h; rfl) | (obtain ⟨_, _, _, _, _, rfl, _⟩ := h; rfl) | (obtain ⟨_, _, _, _, _, _, rfl, _⟩ := h; rfl)) l_kind_of, g35, p35, B35⟩
  have C36 : Cal l.prog w K mg base (crankB (clsOf [("NoOrder", C_NoOrder), ("Impossible", C_Impossible), ("NoPerson", C_NoPerson), ("Limits", C_Limits), ("Table", C_Table)] fa) r l1) 4 "kinds_of" ["row", "order"] S_kinds_of := ⟨f36, v36, w_kinds_of F36 C32 C33 C10 C35 y_zip y_max y_tuple (fun ds Q E h => by first | (simp only [S_kinds_of] at h; split at h <;> first | rfl | exact h.elim) | (obtain ⟨rfl, _⟩ := h; rfl) | (obtain ⟨_, rfl, _⟩ := h; rfl) | (obtain ⟨_, _, rfl, _⟩ := h; rfl) | (obtain ⟨_, _, _, rfl, _⟩ := h; rfl) | (obtain ⟨_, _, _, _, rfl, _⟩ := h; rfl) | (obtain ⟨_, _, _, _, _, rfl, _⟩ := h; rfl) | (obtain ⟨_, _, _, _, _, _, rfl, _⟩ := h; rfl)) l_kinds_of, g36, p36, B36⟩
  have C37 : Cal l.prog w K mg base (crankB (clsOf [("NoOrder", C_NoOrder), ("Impossible", C_Impossible), ("NoPerson", C_NoPerson), ("Limits", C_Limits), ("Table", C_Table)] fa) r l1) 5 "misplaced" ["row", "order"] S_misplaced := ⟨f37, v37, w_misplaced F37 C36 ⟨_, c8⟩ y_tuple y_enumerate (fun ds Q E h => by first | (simp only [S_misplaced] at h; split at h <;> first | rfl | exact h.elim) | (obtain ⟨rfl, _⟩ := h; rfl) | (obtain ⟨_, rfl, _⟩ := h; rfl) | (obtain ⟨_, _, rfl, _⟩ := h; rfl) | (obtain ⟨_, _, _, rfl, _⟩ := h; rfl) | (obtain ⟨_, _, _, _, rfl, _⟩ := h; rfl) | (obtain ⟨_, _, _, _, _, rfl, _⟩ := h; rfl) | (obtain ⟨_, _, _, _, _, _, rfl, _⟩ := h; rfl)) l_misplaced, g37, p37, B37⟩
  have C38 : Cal l.prog w K mg base (crankB (clsOf [("NoOrder", C_NoOrder), ("Impossible", C_Impossible), ("NoPerson", C_NoPerson), ("Limits", C_Limits), ("Table", C_Table)] fa) r l1) 5 "least_counts" ["row", "order"] S_least_counts := ⟨f38, v38, w_least_counts F38 C33 C36 C10 ⟨_, c7⟩ y_zip (fun ds Q E h => by first | (simp only [S_least_counts] at h; split at h <;> first | rfl | exact h.elim) | (obtain ⟨rfl, _⟩ := h; rfl) | (obtain ⟨_, rfl, _⟩ := h; rfl) | (obtain ⟨_, _, rfl, _⟩ := h; rfl) | (obtain ⟨_, _, _, rfl, _⟩ := h; rfl) | (obtain ⟨_, _, _, _, rfl, _⟩ := h; rfl) | (obtain ⟨_, _, _, _, _, rfl, _⟩ := h; rfl) | (obtain ⟨_, _, _, _, _, _, rfl, _⟩ := h; rfl)) l_least_counts, g38, p38, B38⟩
  have C39 : Cal l.prog w K mg base (crankB (clsOf [("NoOrder", C_NoOrder), ("Impossible", C_Impossible), ("NoPerson", C_NoPerson), ("Limits", C_Limits), ("Table", C_Table)] fa) r l1) 5 "greatest_counts" ["row", "order"] S_greatest_counts := ⟨f39, v39, w_greatest_counts F39 C33 C36 C10 ⟨_, c6⟩ y_zip (fun ds Q E h => by first | (simp only [S_greatest_counts] at h; split at h <;> first | rfl | exact h.elim) | (obtain ⟨rfl, _⟩ := h; rfl) | (obtain ⟨_, rfl, _⟩ := h; rfl) | (obtain ⟨_, _, rfl, _⟩ := h; rfl) | (obtain ⟨_, _, _, rfl, _⟩ := h; rfl) | (obtain ⟨_, _, _, _, rfl, _⟩ := h; rfl) | (obtain ⟨_, _, _, _, _, rfl, _⟩ := h; rfl) | (obtain ⟨_, _, _, _, _, _, rfl, _⟩ := h; rfl)) l_greatest_counts, g39, p39, B39⟩
  have C40 : Cal l.prog w K mg base (crankB (clsOf [("NoOrder", C_NoOrder), ("Impossible", C_Impossible), ("NoPerson", C_NoPerson), ("Limits", C_Limits), ("Table", C_Table)] fa) r l1) 6 "clashes" ["row", "order"] S_clashes := ⟨f40, v40, w_clashes F40 C39 C38 y_range y_len y_tuple (fun ds Q E h => by first | (simp only [S_clashes] at h; split at h <;> first | rfl | exact h.elim) | (obtain ⟨rfl, _⟩ := h; rfl) | (obtain ⟨_, rfl, _⟩ := h; rfl) | (obtain ⟨_, _, rfl, _⟩ := h; rfl) | (obtain ⟨_, _, _, rfl, _⟩ := h; rfl) | (obtain ⟨_, _, _, _, rfl, _⟩ := h; rfl) | (obtain ⟨_, _, _, _, _, rfl, _⟩ := h; rfl) | (obtain ⟨_, _, _, _, _, _, rfl, _⟩ := h; rfl)) l_clashes, g40, p40, B40⟩
  have C41 : Cal l.prog w K mg base (crankB (clsOf [("NoOrder", C_NoOrder), ("Impossible", C_Impossible), ("NoPerson", C_NoPerson), ("Limits", C_Limits), ("Table", C_Table)] fa) r l1) 7 "is_possible" ["row", "order"] S_is_possible := ⟨f41, v41, w_is_possible F41 C40 C37 (fun ds Q E h => by first | (simp only [S_is_possible] at h; split at h <;> first | rfl | exact h.elim) | (obtain ⟨rfl, _⟩ := h; rfl) | (obtain ⟨_, rfl, _⟩ := h; rfl) | (obtain ⟨_, _, rfl, _⟩ := h; rfl) | (obtain ⟨_, _, _, rfl, _⟩ := h; rfl) | (obtain ⟨_, _, _, _, rfl, _⟩ := h; rfl) | (obtain ⟨_, _, _, _, _, rfl, _⟩ := h; rfl) | (obtain ⟨_, _, _, _, _, _, rfl, _⟩ := h; rfl)) l_is_possible, g41, p41, B41⟩
  have C42 : Cal l.prog w K mg base (crankB (clsOf [("NoOrder", C_NoOrder), ("Impossible", C_Impossible), ("NoPerson", C_NoPerson), ("Limits", C_Limits), ("Table", C_Table)] fa) r l1) 6 "stairs" ["row", "order"] S_stairs := ⟨f42, v42, w_stairs F42 C39 C38 y_tuple y_range y_len y_max y_min (fun ds Q E h => by first | (simp only [S_stairs] at h; split at h <;> first | rfl | exact h.elim) | (obtain ⟨rfl, _⟩ := h; rfl) | (obtain ⟨_, rfl, _⟩ := h; rfl) | (obtain ⟨_, _, rfl, _⟩ := h; rfl) | (obtain ⟨_, _, _, rfl, _⟩ := h; rfl) | (obtain ⟨_, _, _, _, rfl, _⟩ := h; rfl) | (obtain ⟨_, _, _, _, _, rfl, _⟩ := h; rfl) | (obtain ⟨_, _, _, _, _, _, rfl, _⟩ := h; rfl)) l_stairs, g42, p42, B42⟩
  have C43 : Cal l.prog w K mg base (crankB (clsOf [("NoOrder", C_NoOrder), ("Impossible", C_Impossible), ("NoPerson", C_NoPerson), ("Limits", C_Limits), ("Table", C_Table)] fa) r l1) 8 "bounds_of" ["row", "order"] S_bounds_of := ⟨f43, v43, w_bounds_of F43 C41 C42 M_Impossible (fun ds Q E h => by first | (simp only [S_bounds_of] at h; split at h <;> first | rfl | exact h.elim) | (obtain ⟨rfl, _⟩ := h; rfl) | (obtain ⟨_, rfl, _⟩ := h; rfl) | (obtain ⟨_, _, rfl, _⟩ := h; rfl) | (obtain ⟨_, _, _, rfl, _⟩ := h; rfl) | (obtain ⟨_, _, _, _, rfl, _⟩ := h; rfl) | (obtain ⟨_, _, _, _, _, rfl, _⟩ := h; rfl) | (obtain ⟨_, _, _, _, _, _, rfl, _⟩ := h; rfl)) l_bounds_of, g43, p43, B43⟩
  have C46000 : CalI l.prog w K mg base (crankB (clsOf [("NoOrder", C_NoOrder), ("Impossible", C_Impossible), ("NoPerson", C_NoPerson), ("Limits", C_Limits), ("Table", C_Table)] fa) r l1) 9 "Table" ["self", "row", "order"] S_Table_init := ⟨f46000, v46000, w_Table_init F46000 C32 C41 C43 y_len y_list y_zip y_sum y_range CL_Table NA_Table_lows NA_Table_highs NA_Table_numbers (fun ds Q E h => by first | (simp only [S_Table_init] at h; split at h <;> first | rfl | exact h.elim) | (obtain ⟨rfl, _⟩ := h; rfl) | (obtain ⟨_, rfl, _⟩ := h; rfl) | (obtain ⟨_, _, rfl, _⟩ := h; rfl) | (obtain ⟨_, _, _, rfl, _⟩ := h; rfl) | (obtain ⟨_, _, _, _, rfl, _⟩ := h; rfl) | (obtain ⟨_, _, _, _, _, rfl, _⟩ := h; rfl) | (obtain ⟨_, _, _, _, _, _, rfl, _⟩ := h; rfl)) l_Table_init, MK46000, PySem.W.mg_of X G RL_Table.ns, B46000⟩
  have C46 : Cal l.prog w K mg base (crankB (clsOf [("NoOrder", C_NoOrder), ("Impossible", C_Impossible), ("NoPerson", C_NoPerson), ("Limits", C_Limits), ("Table", C_Table)] fa) r l1) 11 "earliest" ["row", "order"] S_earliest := ⟨f46, v46, w_earliest F46 C46000 C11 CL_Table NA_Table_numbers NA_Table_highs (fun ds Q E h => by first | (simp only [S_earliest] at h; split at h <;> first | rfl | exact h.elim) | (obtain ⟨rfl, _⟩ := h; rfl) | (obtain ⟨_, rfl, _⟩ := h; rfl) | (obtain ⟨_, _, rfl, _⟩ := h; rfl) | (obtain ⟨_, _, _, rfl, _⟩ := h; rfl) | (obtain ⟨_, _, _, _, rfl, _⟩ := h; rfl) | (obtain ⟨_, _, _, _, _, rfl, _⟩ := h; rfl) | (obtain ⟨_, _, _, _, _, _, rfl, _⟩ := h; rfl)) l_earliest, g46, p46, B46⟩
  have C47 : Cal l.prog w K mg base (crankB (clsOf [("NoOrder", C_NoOrder), ("Impossible", C_Impossible), ("NoPerson", C_NoPerson), ("Limits", C_Limits), ("Table", C_Table)] fa) r l1) 11 "latest" ["row", "order"] S_latest := ⟨f47, v47, w_latest F47 C46000 C11 CL_Table NA_Table_numbers NA_Table_lows (fun ds Q E h => by first | (simp only [S_latest] at h; split at h <;> first | rfl | exact h.elim) | (obtain ⟨rfl, _⟩ := h; rfl) | (obtain ⟨_, rfl, _⟩ := h; rfl) | (obtain ⟨_, _, rfl, _⟩ := h; rfl) | (obtain ⟨_, _, _, rfl, _⟩ := h; rfl) | (obtain ⟨_, _, _, _, rfl, _⟩ := h; rfl) | (obtain ⟨_, _, _, _, _, rfl, _⟩ := h; rfl) | (obtain ⟨_, _, _, _, _, _, rfl, _⟩ := h; rfl)) l_latest, g47, p47, B47⟩
  have C21 : Cal l.prog w K mg base (crankB (clsOf [("NoOrder", C_NoOrder), ("Impossible", C_Impossible), ("NoPerson", C_NoPerson), ("Limits", C_Limits), ("Table", C_Table)] fa) r l1) 5 "waiting_range" ["row", "order", "person"] S_waiting_range := ⟨f21, v21, w_waiting_range F21 C20 C20000 CL_Limits NA_Limits_highs NA_Limits_lows (fun ds Q E h => by first | (simp only [S_waiting_range] at h; split at h <;> first | rfl | exact h.elim) | (obtain ⟨rfl, _⟩ := h; rfl) | (obtain ⟨_, rfl, _⟩ := h; rfl) | (obtain ⟨_, _, rfl, _⟩ := h; rfl) | (obtain ⟨_, _, _, rfl, _⟩ := h; rfl) | (obtain ⟨_, _, _, _, rfl, _⟩ := h; rfl) | (obtain ⟨_, _, _, _, _, rfl, _⟩ := h; rfl) | (obtain ⟨_, _, _, _, _, _, rfl, _⟩ := h; rfl)) l_waiting_range, g21, p21, B21⟩
  have C22 : Cal l.prog w K mg base (crankB (clsOf [("NoOrder", C_NoOrder), ("Impossible", C_Impossible), ("NoPerson", C_NoPerson), ("Limits", C_Limits), ("Table", C_Table)] fa) r l1) 5 "meets" ["row", "order", "one", "other"] S_meets := ⟨f22, v22, w_meets F22 C20 C20001 C20000 (fun ds Q E h => by first | (simp only [S_meets] at h; split at h <;> first | rfl | exact h.elim) | (obtain ⟨rfl, _⟩ := h; rfl) | (obtain ⟨_, rfl, _⟩ := h; rfl) | (obtain ⟨_, _, rfl, _⟩ := h; rfl) | (obtain ⟨_, _, _, rfl, _⟩ := h; rfl) | (obtain ⟨_, _, _, _, rfl, _⟩ := h; rfl) | (obtain ⟨_, _, _, _, _, rfl, _⟩ := h; rfl) | (obtain ⟨_, _, _, _, _, _, rfl, _⟩ := h; rfl)) l_meets, g22, p22, B22⟩
  have C58 : Cal l.prog w K mg base (crankB (clsOf [("NoOrder", C_NoOrder), ("Impossible", C_Impossible), ("NoPerson", C_NoPerson), ("Limits", C_Limits), ("Table", C_Table)] fa) r l1) 12 "_law_right" ["_law_crank_here", "_law_row_here", "_law_word_here"] (S_law_right r) := ⟨f58, v58, w_law_right F58 C56 C24 C54 C10 C57 C47 C46 C50 C23 C21 C22 y_len y_list y_range y_tuple y_max y_int (fun ds Q E h => by first | (simp only [S_law_right] at h; split at h <;> first | rfl | exact h.elim) | (obtain ⟨rfl, _⟩ := h; rfl) | (obtain ⟨_, rfl, _⟩ := h; rfl) | (obtain ⟨_, _, rfl, _⟩ := h; rfl) | (obtain ⟨_, _, _, rfl, _⟩ := h; rfl) | (obtain ⟨_, _, _, _, rfl, _⟩ := h; rfl) | (obtain ⟨_, _, _, _, _, rfl, _⟩ := h; rfl) | (obtain ⟨_, _, _, _, _, _, rfl, _⟩ := h; rfl)) (l_law_right r), g58, p58, B58⟩
  have C55 : Cal l.prog w K mg base (crankB (clsOf [("NoOrder", C_NoOrder), ("Impossible", C_Impossible), ("NoPerson", C_NoPerson), ("Limits", C_Limits), ("Table", C_Table)] fa) r l1) 2 "_law_word" ["_law_crank_here", "_law_row_here", "_law_to_end"] (S_c_word r) := ⟨f55, v55, w_c_word F55 C50 y_len (fun ds Q E h => by first | (simp only [S_c_word] at h; split at h <;> first | rfl | exact h.elim) | (obtain ⟨rfl, _⟩ := h; rfl) | (obtain ⟨_, rfl, _⟩ := h; rfl) | (obtain ⟨_, _, rfl, _⟩ := h; rfl) | (obtain ⟨_, _, _, rfl, _⟩ := h; rfl) | (obtain ⟨_, _, _, _, rfl, _⟩ := h; rfl) | (obtain ⟨_, _, _, _, _, rfl, _⟩ := h; rfl) | (obtain ⟨_, _, _, _, _, _, rfl, _⟩ := h; rfl)) (l_c_word r), g55, p55, B55⟩
  exact w_law C51 C58 C55 cdv A outer s H E hr hgd tk
end LawP
set_option linter.all false
set_option maxRecDepth 100000
set_option maxHeartbeats 0
open PySem PySem.W PyProof.Rows in
theorem PySem.Challenge.cw_matesline_k57_whole_meetings_and_ranges_holds : PySem.Challenge.rw_matesline_k57_whole_meetings_and_ranges.Holds := by
  w_on; o_law; k_head; (case hw => w_witness2)
  k_fill
  refine VL.walkG (l := PySem.Challenge.rw_matesline_k57_whole_meetings_and_ranges) (n := 63) (k := 13) (x := "_law_script") (sp := fun w => VL.spLaw _) rfl (by decide) rfl ⟨rfl, by decide, by decide⟩ (fun w h Y => PySem.W.kIn_of Y) ?F (fun _ _ a ns hl _ hS => ⟨a, ns, rfl, hS, hl, fun _ => rfl⟩)
  case F =>
    intro w mg fa h KX G hmg
    refine' LawP.all_mk KX G hmg ?d49 ?d50 ?d51 ?d9 ?d16 ?d10 ?d18 ?d24 ?d52 ?d53 ?d54 ?d56 ?d57 ?d20 ?d23 ?d11 ?d30 ?d31 ?d32 ?d33 ?d35 ?d36 ?d37 ?d38 ?d39 ?d40 ?d41 ?d42 ?d43 ?d46 ?d47 ?d21 ?d22 ?d58 ?d55 ?d59 ?m0 ?m1 ?m2 ?m3 ?m4 ?m5 ?m6 ?m7 ?m8 ?z0 ?z1 ?z2 ?z3 ?z4 ?z5 ?z6 ?z7 ?z8 ?z9 ?z10 ?z11 ?z12 ?z13 ?z14 ?z15 ?z16 ?r0 ?r1 ?r2 ?kl0 ?kl1 ?kn0 ?kn1 ?kn2 ?kn3 ?kn4 ?kn5 ?kn6 ?km0 ?km1 ?km2
    (case d49 => refine' VL.defK ?a ?l ?c ?k; (case a => k_is); (case l => k_is); (case c => k_is); (case k => k_is))
    (case d50 => refine' VL.defK ?a ?l ?c ?k; (case a => k_is); (case l => k_is); (case c => k_is); (case k => k_is))
    (case d51 => refine' VL.defK ?a ?l ?c ?k; (case a => k_is); (case l => k_is); (case c => k_is); (case k => k_is))
    (case d9 => refine' VL.defK ?a ?l ?c ?k; (case a => k_is); (case l => k_is); (case c => k_is); (case k => k_is))
    (case d16 => refine' VL.defKA ?a ?l ?c ?k; (case a => k_is); (case l => k_is); (case c => k_is); (case k => k_is))
    (case d10 => refine' VL.defK ?a ?l ?c ?k; (case a => k_is); (case l => k_is); (case c => k_is); (case k => k_is))
    (case d18 => refine' VL.defK ?a ?l ?c ?k; (case a => k_is); (case l => k_is); (case c => k_is); (case k => k_is))
    (case d24 => refine' VL.defK ?a ?l ?c ?k; (case a => k_is); (case l => k_is); (case c => k_is); (case k => k_is))
    (case d52 => refine' VL.defK ?a ?l ?c ?k; (case a => k_is); (case l => k_is); (case c => k_is); (case k => k_is))
    (case d53 => refine' VL.defK ?a ?l ?c ?k; (case a => k_is); (case l => k_is); (case c => k_is); (case k => k_is))
    (case d54 => refine' VL.defK ?a ?l ?c ?k; (case a => k_is); (case l => k_is); (case c => k_is); (case k => k_is))
    (case d56 => refine' VL.defK ?a ?l ?c ?k; (case a => k_is); (case l => k_is); (case c => k_is); (case k => k_is))
    (case d57 => refine' VL.defK ?a ?l ?c ?k; (case a => k_is); (case l => k_is); (case c => k_is); (case k => k_is))
    (case d20 => refine' VL.defK ?a ?l ?c ?k; (case a => k_is); (case l => k_is); (case c => k_is); (case k => k_is))
    (case d23 => refine' VL.defK ?a ?l ?c ?k; (case a => k_is); (case l => k_is); (case c => k_is); (case k => k_is))
    (case d11 => refine' VL.defK ?a ?l ?c ?k; (case a => k_is); (case l => k_is); (case c => k_is); (case k => k_is))
    (case d30 => refine' VL.defK ?a ?l ?c ?k; (case a => k_is); (case l => k_is); (case c => k_is); (case k => k_is))
    (case d31 => refine' VL.defK ?a ?l ?c ?k; (case a => k_is); (case l => k_is); (case c => k_is); (case k => k_is))
    (case d32 => refine' VL.defK ?a ?l ?c ?k; (case a => k_is); (case l => k_is); (case c => k_is); (case k => k_is))
    (case d33 => refine' VL.defKA ?a ?l ?c ?k; (case a => k_is); (case l => k_is); (case c => k_is); (case k => k_is))
    (case d35 => refine' VL.defK ?a ?l ?c ?k; (case a => k_is); (case l => k_is); (case c => k_is); (case k => k_is))
    (case d36 => refine' VL.defK ?a ?l ?c ?k; (case a => k_is); (case l => k_is); (case c => k_is); (case k => k_is))
    (case d37 => refine' VL.defK ?a ?l ?c ?k; (case a => k_is); (case l => k_is); (case c => k_is); (case k => k_is))
    (case d38 => refine' VL.defK ?a ?l ?c ?k; (case a => k_is); (case l => k_is); (case c => k_is); (case k => k_is))
    (case d39 => refine' VL.defK ?a ?l ?c ?k; (case a => k_is); (case l => k_is); (case c => k_is); (case k => k_is))
    (case d40 => refine' VL.defK ?a ?l ?c ?k; (case a => k_is); (case l => k_is); (case c => k_is); (case k => k_is))
    (case d41 => refine' VL.defK ?a ?l ?c ?k; (case a => k_is); (case l => k_is); (case c => k_is); (case k => k_is))
    (case d42 => refine' VL.defK ?a ?l ?c ?k; (case a => k_is); (case l => k_is); (case c => k_is); (case k => k_is))
    (case d43 => refine' VL.defK ?a ?l ?c ?k; (case a => k_is); (case l => k_is); (case c => k_is); (case k => k_is))
    (case d46 => refine' VL.defK ?a ?l ?c ?k; (case a => k_is); (case l => k_is); (case c => k_is); (case k => k_is))
    (case d47 => refine' VL.defK ?a ?l ?c ?k; (case a => k_is); (case l => k_is); (case c => k_is); (case k => k_is))
    (case d21 => refine' VL.defK ?a ?l ?c ?k; (case a => k_is); (case l => k_is); (case c => k_is); (case k => k_is))
    (case d22 => refine' VL.defK ?a ?l ?c ?k; (case a => k_is); (case l => k_is); (case c => k_is); (case k => k_is))
    (case d58 => refine' VL.defK ?a ?l ?c ?k; (case a => k_is); (case l => k_is); (case c => k_is); (case k => k_is))
    (case d55 => refine' VL.defK ?a ?l ?c ?k; (case a => k_is); (case l => k_is); (case c => k_is); (case k => k_is))
    (case d59 => refine' VL.defK ?a ?l ?c ?k; (case a => k_is); (case l => k_is); (case c => k_is); (case k => k_is))
    (case m0 => k_is)
    (case m1 => k_is)
    (case m2 => k_is)
    (case m3 => k_is)
    (case m4 => k_is)
    (case m5 => k_is)
    (case m6 => k_is)
    (case m7 => k_is)
    (case m8 => k_is)
    (case z0 => k_is)
    (case z1 => k_is)
    (case z2 => k_is)
    (case z3 => k_is)
    (case z4 => k_is)
    (case z5 => k_is)
    (case z6 => k_is)
    (case z7 => k_is)
    (case z8 => k_is)
    (case z9 => k_is)
    (case z10 => k_is)
    (case z11 => k_is)
    (case z12 => k_is)
    (case z13 => k_is)
    (case z14 => k_is)
    (case z15 => k_is)
    (case z16 => k_is)
    (case r0 => refine' VL.rai0 (VL.raiB ?a1 ?a2 ?a3 ?a4 ?a5 ?b1 ?b2 ?b3 ?b4 ?b5 ?b6 ?b7 ?b8) ?e1; (case a1 => k_is); (case a2 => k_is); (case a3 => k_is); (case a4 => k_is); (case a5 => k_is); (case b1 => k_is); (case b2 => k_is); (case b3 => k_is); (case b4 => k_is); (case b5 => k_is); (case b6 => k_is); (case b7 => k_is); (case b8 => k_is); (case e1 => first | rfl | decide +kernel | k_exc))
    (case r1 => refine' VL.rai0 (VL.raiB ?a1 ?a2 ?a3 ?a4 ?a5 ?b1 ?b2 ?b3 ?b4 ?b5 ?b6 ?b7 ?b8) ?e1; (case a1 => k_is); (case a2 => k_is); (case a3 => k_is); (case a4 => k_is); (case a5 => k_is); (case b1 => k_is); (case b2 => k_is); (case b3 => k_is); (case b4 => k_is); (case b5 => k_is); (case b6 => k_is); (case b7 => k_is); (case b8 => k_is); (case e1 => first | rfl | decide +kernel | k_exc))
    (case r2 => refine' VL.rai1 (VL.raiB ?a1 ?a2 ?a3 ?a4 ?a5 ?b1 ?b2 ?b3 ?b4 ?b5 ?b6 ?b7 ?b8) ?c1 ?c2 ?c3 ?c4 ?d1 ?d2 ?d3 ?d4 ?d5; (case a1 => k_is); (case a2 => k_is); (case a3 => k_is); (case a4 => k_is); (case a5 => k_is); (case b1 => k_is); (case b2 => k_is); (case b3 => k_is); (case b4 => k_is); (case b5 => k_is); (case b6 => k_is); (case b7 => k_is); (case b8 => k_is); (case c1 => k_is); (case c2 => decide +kernel); (case c3 => k_is); (case c4 => k_is); (case d1 => k_is); (case d2 => k_is); (case d3 => k_is); (case d4 => k_is); (case d5 => k_is))
    (case kl0 => refine' VL.clsK ?a1 ?a2 ?a3 ?a4 ?a5 ?m1 ?m2 ?m3 ?m4 ?d3 ?d4 ?d5; (case a1 => k_is); (case a2 => k_is); (case a3 => k_is); (case a4 => k_is); (case a5 => k_is); (case m1 => k_is); (case m2 => k_is); (case m3 => k_is); (case m4 => k_is); (case d3 => k_is); (case d4 => k_is); (case d5 => k_is))
    (case kl1 => refine' VL.clsK ?a1 ?a2 ?a3 ?a4 ?a5 ?m1 ?m2 ?m3 ?m4 ?d3 ?d4 ?d5; (case a1 => k_is); (case a2 => k_is); (case a3 => k_is); (case a4 => k_is); (case a5 => k_is); (case m1 => k_is); (case m2 => k_is); (case m3 => k_is); (case m4 => k_is); (case d3 => k_is); (case d4 => k_is); (case d5 => k_is))
    (case kn0 => refine' VL.noAtK ?a1 ?a2; (case a1 => k_is); (case a2 => k_is))
    (case kn1 => refine' VL.noAtK ?a1 ?a2; (case a1 => k_is); (case a2 => k_is))
    (case kn2 => refine' VL.noAtK ?a1 ?a2; (case a1 => k_is); (case a2 => k_is))
    (case kn3 => refine' VL.noAtK ?a1 ?a2; (case a1 => k_is); (case a2 => k_is))
    (case kn4 => refine' VL.noAtK ?a1 ?a2; (case a1 => k_is); (case a2 => k_is))
    (case kn5 => refine' VL.noAtK ?a1 ?a2; (case a1 => k_is); (case a2 => k_is))
    (case kn6 => refine' VL.noAtK ?a1 ?a2; (case a1 => k_is); (case a2 => k_is))
    (case km0 => refine' VL.methK ?a1 ?m2 ?m3 ?d3 ?d4 ?d5; (case a1 => k_is); (case m2 => k_is); (case m3 => k_is); (case d3 => k_is); (case d4 => k_is); (case d5 => k_is))
    (case km1 => refine' VL.methK ?a1 ?m2 ?m3 ?d3 ?d4 ?d5; (case a1 => k_is); (case m2 => k_is); (case m3 => k_is); (case d3 => k_is); (case d4 => k_is); (case d5 => k_is))
    (case km2 => refine' VL.methK ?a1 ?m2 ?m3 ?d3 ?d4 ?d5; (case a1 => k_is); (case m2 => k_is); (case m3 => k_is); (case d3 => k_is); (case d4 => k_is); (case d5 => k_is))
