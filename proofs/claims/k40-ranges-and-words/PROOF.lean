import PyProof.Rows.All
import PySem.Challenge.RW_matesline_k40_ranges_and_words
import HandS.ForMost
import HandS.ForExc
import HandS.TupAny
import HandS.TupMul
import HandS.More
import HandS.Style
import HandS.IsInst
import HandS.Deep
import KE.DataEq
import HandS.RaiseMore
import KE.KIndexOf
import PyProof.SeqIndex
import PyProof.EqAt
import HandS.Iter
import HandS.Zip
import HandS.Rev
import KE.GoesMore
import KE.GoesEnum
import HandS.Comp
import HandS.WordsExc
import HandS.ExcOwn
import PyProof.ReprReads
import PyProof.ReprRoads
import HandS.Ends
import HandS.Dict
import KE.KRevSl
import HandS.AnyAll
import HandS.Text
import PyProof.ReprLen
import PyProof.Rows.ReprOcc
import HandS.StrMore
import HandS.Strs
import HandS.SetFor
import HandS.Steps
import HandS.ExcInit
import HandS.ExcField
import HandS.ExcIs
import HandS.Small
import KE.KIsAll
import HandS.Star
import HandS.SortInts
import HandS.TupSets
import HandS.Conv
import HandS.SortRule
import PyProof.ListStr
import HandS.Flow
import HandS.Lambda
import HandS.EndTab
import KE.KNest
import HandS.EndOwn
import HandS.HotCalls
import HandS.Defaults
import HandS.CallSlots
import HandS.Replace
import KE.DataMinMax
import HandS.NoneIn
import PyProof.EqKinds
import KE.KEqDict
import PyProof.Rows.SortShellAny
import KE.KDictZip
import KE.KItemsList
import HandS.ListItems
import KE.KDictList
import HandS.Keys
import Flt.Ops
import PyProof.FString5
import HandS.SetTxt0
import KE.SortKeyed
import KE.SortData
set_option Elab.async false
set_option linter.all false
set_option maxRecDepth 100000
set_option maxHeartbeats 4000000
namespace VL
open PySem PySem.Spec PyProof.Rows L2
/-! ## tuples whose very object is known (so that it has no dict of its own) -/
abbrev tob (its : List Value) : Obj := { cls := .type "tuple", data := .seq its.toArray }
/-- a held tuple -/
abbrev HO.th (o : Obj) (xs : List V) : HO := .frz o (.tup xs)
theorem th_ok {P : Program} {w : World} {H : Hp} {h : Heap} {a : Addr} {xs : List V} {its : List Value} (hz : xs.length ≤ sizeLine) (r : Vals xs its) (e : h.get? a = some (tob its)) : ObjOk P w H h a (HO.th (tob its) xs) :=
  ⟨e, hz, its, r, ⟨_, e, rfl, _, rfl⟩⟩
theorem SqT.th {K : PySem.W.Frag} {H : Hp} {a : Addr} {o : Obj} {xs : List V} (h : H a = some (HO.th o xs)) : SqT K H a xs := .inl (.inr ⟨o, h⟩)
/-- what is wanted of a new tuple -/
abbrev NewT (H : Hp) (xs : List V) (Q : VK) : Prop := ∀ (p : Addr) (o : Obj), H p = none → o.dict = none → Q (.ref p) (upd H p (HO.th o xs))
section
variable {X : Cx} {e : Expr} {es : List Expr} {te : TE} {t : TA} {pos : Pos} {pins : List (Addr × Obj)} {σ : L2.St} {H : Hp} {s : Shared} {Q : VK}
theorem new_th {xs : List V} {its : List Value} {tk : Nat} (I : Inv X pins σ H s) (hz : xs.length ≤ sizeLine) (r : Vals xs its) (q : NewT H xs Q) : EP X pins σ Q (.ref s.heap.objs.size) { s with heap := s.heap.push (tob its), toks := tk } :=
  ⟨.ref s.heap.objs.size, upd H s.heap.objs.size (HO.th (tob its) xs), I.laid (t' := tk) (fun _ _ e => Heap.get?_push_of_some _ e) (Nat.le_refl _) (th_ok hz r (Heap.get?_push_size _ rfl)), rfl, q _ _ (I.hok.fresh (Nat.le_refl _)) rfl⟩
def tTupF (t : TA) : TE := fun σ H Q => t σ H fun xs H1 => xs.length ≤ sizeLine ∧ NewT H1 xs Q
theorem pe_tupF {x1} (h : PA X es t) : PE X (.Tuple es x1 pos) (tTupF t) := by
  refine ⟨fun pins s σ H Q I hq => wpAny_Tuple_spliced (thn (h.run pos pins s σ H _ I hq) ?_)⟩
  rintro us s1 ⟨xs, H1, I1, r, z, q⟩
  exact ⟨Nat.le_trans (Nat.le_of_eq r.length.symm) z, new_th (tk := s1.toks) I1 z r q⟩
def rCatF (K : PySem.W.Frag) : R2 := fun x y H Q => ∃ a c xs ys, x = .ref a ∧ y = .ref c ∧ SqT K H a xs ∧ SqT K H c ys ∧ xs.length + ys.length ≤ sizeLine ∧
  (xs = [] → Q (.ref c) H) ∧ (xs ≠ [] → ys = [] → Q (.ref a) H) ∧ (xs ≠ [] → ys ≠ [] → NewT H (xs ++ ys) Q)
theorem op_catF : OpR X (binaryOp .Add) (rCatF X.K) := by
  intro pins s σ H x y v u Q I rx ry ⟨a, c, xs, ys, ex, ey, ha, hc, hz, q0, q1, q2⟩
  subst ex ey
  obtain rfl : v = .ref a := rx
  obtain rfl : u = .ref c := ry
  obtain ⟨i1, r1, p1, _⟩ := I.tuple ha
  obtain ⟨i2, r2, p2, _⟩ := I.tuple hc
  cases xs with
  | nil =>
    cases r1
    exact cat_tup0 p1 p2 ⟨.ref c, H, I, rfl, q0 rfl⟩
  | cons x0 xr =>
    have hx : x0 :: xr ≠ [] := by simp
    refine HT.cat_tup p1 p2 (fun z => hx (r1.nil_iff.mp z)) (fun z => ⟨.ref a, H, I, rfl, q1 hx (r2.nil_iff.mp z)⟩) (fun z => ?_) (by have h1 := r1.length; have h2 := r2.length; omega)
    exact new_th (tk := s.toks) I (by rw [List.length_append]; exact hz) (r1.append r2) (q2 hx fun w => z (r2.nil_iff.mpr w))
def rSlF (K : PySem.W.Frag) : V → Option Int → Option Int → Hp → VK → Prop := fun x lo hi H Q => ∃ a xs, x = .ref a ∧ SqT K H a xs ∧
  (HT.sIx xs.length 0 lo = 0 ∧ HT.sIx xs.length xs.length hi = xs.length → Q (.ref a) H) ∧ (¬ (HT.sIx xs.length 0 lo = 0 ∧ HT.sIx xs.length xs.length hi = xs.length) → NewT H (cutV xs lo hi) Q)
theorem sl_tupF : SlR X (rSlF X.K) := by
  intro pins s σ H x v vl vu lo hi sl Q I rx hs pl pu ⟨a, xs, ex, hx, q1, q2⟩
  subst ex
  obtain rfl : v = .ref a := rx
  obtain ⟨its, r, ht, hz⟩ := I.tuple hx
  have hn : its.toArray.size = xs.length := by rw [List.size_toArray, r.length]
  refine ⟨"tuple", _, PyProof.Rows.slot_tuple_getitem.lookup, ht.typeIs, ?_⟩
  by_cases hw : HT.sIx xs.length 0 lo = 0 ∧ HT.sIx xs.length xs.length hi = xs.length
  · exact getItem_tuple_whole ht hs pl pu (by rw [hn]; exact hw) ⟨.ref a, H, I, rfl, q1 hw⟩
  · refine HT.getItem_tuple_cut ht hs pl pu (by rw [hn]; exact hw) ?_ (by rw [hn]; exact hz)
    rw [hn]
    exact new_th (tk := s.toks) I (Nat.le_trans (cutV_length xs lo hi) hz) ((r.drop _).take _) (q2 hw)
def rTupOf (K : PySem.W.Frag) : List V → Hp → VK → Prop := fun xs H Q => ∃ p ys, xs = [.ref p] ∧ ((SqL K H p ys ∧ NewT H ys Q) ∨ (SqT K H p ys ∧ Q (.ref p) H))
theorem call_tupF : CallR X (.type "tuple") (rTupOf X.K) := by
  intro pins s σ H xs us Q I r ⟨p, ys, ex, h⟩
  subst ex
  obtain ⟨u, rfl, ru⟩ := vals1 r
  obtain rfl : u = .ref p := ru
  rcases h with ⟨hq, q⟩ | ⟨hq, q⟩
  · obtain ⟨its, r', pl, hz⟩ := I.list hq
    refine call_tuple_list pl.isList (fun h' kp => ?_) (by rw [List.size_toArray, ← r'.length]; exact hz)
    exact new_th (s := { s with heap := h' }) (tk := s.toks) (I.kept (t' := s.toks) kp) hz r' q
  · obtain ⟨its, r', pl, hz⟩ := I.tuple hq
    exact call_tuple_same pl ⟨.ref p, H, I, rfl, q⟩
def rRepF (K : PySem.W.Frag) : R2 := fun x y H Q => ∃ l k xs, x = .ref l ∧ y = .int k ∧ SqT K H l xs ∧ xs ≠ [] ∧ 2 ≤ k ∧ k ≤ 1000 ∧ xs.length ≤ 1000 ∧ NewT H (List.replicate k.toNat xs).flatten Q
theorem op_repF : OpR X (binaryOp .Mult) (rRepF X.K) := by
  intro pins s σ H x y v u Q I rx ry ⟨l, k, xs, ex, ey, hT, hne, h2, h3, hz, q⟩
  subst ex ey
  obtain rfl : v = .ref l := rx
  obtain ⟨t, rfl⟩ := ry
  obtain ⟨its, r, ⟨o, ho, hc, n, hd⟩, hs⟩ := I.tuple hT
  obtain ⟨oc, dd, dt, slt⟩ := o
  obtain rfl : oc = .type "tuple" := hc
  obtain rfl : dt = .seq its.toArray n := hd
  have hle : its.length = xs.length := r.length.symm
  have hi : its.toArray.isEmpty = false := by
    cases xs with
    | nil => exact absurd rfl hne
    | cons _ _ => cases r; rfl
  have hsz : its.toArray.size = xs.length := by rw [List.size_toArray, hle]
  have hm : ((its.toArray.size : Nat) : Int) * k ≤ 1000000 := by
    rw [hsz]
    exact Int.le_trans (Int.mul_le_mul_of_nonneg_right (show ((xs.length : Nat) : Int) ≤ 1000 by omega) (by omega)) (by omega)
  have fl : (List.replicate k.toNat xs).flatten.length ≤ sizeLine := by
    rw [PyProof.Rows.lm_len_rep_flat, sizeLine_eq]
    exact Nat.le_trans (Nat.mul_le_mul (show k.toNat ≤ 1000 by omega) hz) (by decide)
  have fl2 : (List.replicate k.toNat its).flatten.length ≤ sizeLine := by
    rw [PyProof.Rows.lm_len_rep_flat, hle, ← PyProof.Rows.lm_len_rep_flat]
    exact fl
  have c1 : (its.toArray.isEmpty || k == 1) = false := by simp only [hi, Bool.false_or]; exact beq_eq_false_iff_ne.mpr (by omega)
  have c2 : (decide (k ≤ 0) || its.toArray.isEmpty) = false := by simp only [hi, Bool.or_false]; exact decide_eq_false (by omega)
  have c4 : Builtin.Tuple.tupleTooMany (((its.toArray.size : Nat) : Int) * k) = false := by
    unfold Builtin.Tuple.tupleTooMany
    simp only [sizeLine_eq]
    exact decide_eq_false (by omega)
  have road := tuple_mulW l its.toArray n dd slt k t (by simp; omega) c1 c2 (by omega) c4 (by rw [size_rep, List.size_toArray]; exact fl2)
  refine wpAny_binaryOp_repeat_ref (U := "int") (T := "tuple") (by decide) ⟨_, ho, rfl⟩ (typeIs_int · k t) noFill_tuple_mul F.fills_int_mul F.slot_int_rmul repeat_tuple F.slot_int_index.lookup ?_
  refine call_meets F.slot_int_rmul (typeIs_int s k t) F.entry_int_rmul (F.args_int_rmul_2 _ _) (int_rmul_tuple k t l its.toArray n dd slt) ⟨ho, rfl, ⟨_, ho, rfl⟩, ?_⟩
  refine call_meets F.slot_tuple_mul ⟨_, ho, rfl⟩ F.entry_tuple_mul (F.args_tuple_mul_2 _ _) road ⟨ho, ?_⟩
  rw [size_rep]
  exact new_th (tk := s.toks) I fl (r.rep k.toNat) q
end
end VL
set_option Elab.async false
set_option linter.all false
set_option maxRecDepth 100000
set_option maxHeartbeats 4000000
namespace VL
open PySem PySem.Spec PyProof.Rows L2
/-- things that no rule here writes -/
def still : HO → Prop
  | .ext _ => True
  | .frz _ (.lst _) => True
  | _ => False
/-- any other thing, by what is true of it at its address -/
structure Abs where
  R : (Addr → Prop) → Hp → Addr → Prop
  at_ : ∀ {Z H a}, R Z H a → ∃ o, H a = some o
  noext : ∀ {Z H a}, R Z H a → ∀ o : HO, still o → H a ≠ some o
  mono : ∀ {Z Z' : Addr → Prop} {H H' : Hp} {a : Addr}, (∀ a, Z' a → Z a ∨ H a = none) → (∀ a o, H a = some o → ¬ Z a → H' a = some o) → (∀ o, H a = some o → H' a = some o) → R Z H a → R Z' H' a
/-- what a value is worth: plain data, an own object of plain data that stands still, a value as it is -/
inductive D where
  | py (p : PyData)
  | obj (a : Addr) (n : Str) (fs : List (Str × PyData))
  | raw (v : V)
  | err (a : Addr) (d : Option Addr) (n : Str) (fs : List (Str × PyData))
  | abs (A : Abs)
@[simp] def kD : Key → PyData
  | .inl i => .int i
  | .inr x => .str x
mutual
/-- v is worth d in H; nothing that it reaches lies in Z -/
inductive Rq (Z : Addr → Prop) (H : Hp) : V → PyData → Prop
  | non : Rq Z H .non .none
  | bl (k : Bool) : Rq Z H (.bl k) (.bool k)
  | int (i : Int) : Rq Z H (.int i) (.int i)
  | str (x : Str) : Rq Z H (.str x) (.str x)
  | lst {a : Addr} {xs : List V} {ds : List PyData} : H a = some (.lst xs) → ¬ Z a → Rqs Z H xs ds → Rq Z H (.ref a) (.list ds)
  | tup {a : Addr} {o : Obj} {xs : List V} {ds : List PyData} : H a = some (HO.th o xs) → o.dict = none → ¬ Z a → Rqs Z H xs ds → Rq Z H (.ref a) (.tuple ds)
  | dct {a : Addr} {kvs : List (Key × V)} {ds : List (PyData × PyData)} : H a = some (.dK kvs) → ¬ Z a → Rqk Z H kvs ds → Rq Z H (.ref a) (.dict ds)
inductive Rqs (Z : Addr → Prop) (H : Hp) : List V → List PyData → Prop
  | nil : Rqs Z H [] []
  | cons {v : V} {d : PyData} {vs : List V} {ds : List PyData} : Rq Z H v d → Rqs Z H vs ds → Rqs Z H (v :: vs) (d :: ds)
inductive Rqk (Z : Addr → Prop) (H : Hp) : List (Key × V) → List (PyData × PyData) → Prop
  | nil : Rqk Z H [] []
  | cons {k : Key} {v : V} {d : PyData} {vs : List (Key × V)} {ds : List (PyData × PyData)} : Rq Z H v d → Rqk Z H vs ds → Rqk Z H ((k, v) :: vs) ((kD k, d) :: ds)
end
section
variable {Z Z' : Addr → Prop} {H H' : Hp}
mutual
theorem Rq.mono (hz : ∀ a, Z' a → Z a ∨ H a = none) (hs : ∀ a o, H a = some o → ¬ Z a → H' a = some o) : ∀ {v : V} {d : PyData}, Rq Z H v d → Rq Z' H' v d
  | _, _, .non => .non
  | _, _, .bl k => .bl k
  | _, _, .int i => .int i
  | _, _, .str x => .str x
  | _, _, .lst e n r => .lst (hs _ _ e n) (fun z => (hz _ z).elim n fun q => by rw [e] at q; cases q) (Rqs.mono hz hs r)
  | _, _, .tup e d n r => .tup (hs _ _ e n) d (fun z => (hz _ z).elim n fun q => by rw [e] at q; cases q) (Rqs.mono hz hs r)
  | _, _, .dct e n r => .dct (hs _ _ e n) (fun z => (hz _ z).elim n fun q => by rw [e] at q; cases q) (Rqk.mono hz hs r)
theorem Rqs.mono (hz : ∀ a, Z' a → Z a ∨ H a = none) (hs : ∀ a o, H a = some o → ¬ Z a → H' a = some o) : ∀ {v : List V} {d : List PyData}, Rqs Z H v d → Rqs Z' H' v d
  | _, _, .nil => .nil
  | _, _, .cons r t => .cons (Rq.mono hz hs r) (Rqs.mono hz hs t)
theorem Rqk.mono (hz : ∀ a, Z' a → Z a ∨ H a = none) (hs : ∀ a o, H a = some o → ¬ Z a → H' a = some o) : ∀ {v : List (Key × V)} {d : List (PyData × PyData)}, Rqk Z H v d → Rqk Z' H' v d
  | _, _, .nil => .nil
  | _, _, .cons r t => .cons (Rq.mono hz hs r) (Rqk.mono hz hs t)
end
theorem Rqs.length : ∀ {v : List V} {d : List PyData}, Rqs Z H v d → v.length = d.length
  | _, _, .nil => rfl
  | _, _, .cons _ t => congrArg (· + 1) (Rqs.length t)
theorem Rqk.length : ∀ {v : List (Key × V)} {d : List (PyData × PyData)}, Rqk Z H v d → v.length = d.length
  | _, _, .nil => rfl
  | _, _, .cons _ t => congrArg (· + 1) (Rqk.length t)
theorem Rqs.append : ∀ {v w : List V} {d e : List PyData}, Rqs Z H v d → Rqs Z H w e → Rqs Z H (v ++ w) (d ++ e)
  | _, _, _, _, .nil, s => s
  | _, _, _, _, .cons r t, s => .cons r (Rqs.append t s)
theorem Rqs.get : ∀ {v : List V} {d : List PyData} {i : Nat} {x : PyData}, Rqs Z H v d → d[i]? = some x → ∃ u, v[i]? = some u ∧ Rq Z H u x
  | _, _, _, _, .nil, e => by simp at e
  | _, _, 0, _, .cons r _, e => by simp at e; subst e; exact ⟨_, rfl, r⟩
  | _, _, i + 1, x, .cons _ t, e => by
    obtain ⟨u, h1, h2⟩ := Rqs.get (i := i) (x := x) t (by simpa using e)
    exact ⟨u, by simpa using h1, h2⟩
theorem Rqs.get' : ∀ {v : List V} {d : List PyData} {i : Nat} {u : V}, Rqs Z H v d → v[i]? = some u → ∃ x, d[i]? = some x ∧ Rq Z H u x
  | _, _, _, _, .nil, e => by simp at e
  | _, _, 0, _, .cons r _, e => by simp at e; subst e; exact ⟨_, rfl, r⟩
  | _, _, i + 1, x, .cons _ t, e => by
    obtain ⟨u, h1, h2⟩ := Rqs.get' (i := i) t (by simpa using e)
    exact ⟨u, by simpa using h1, h2⟩
theorem Rqs.take : ∀ {v : List V} {d : List PyData} (n : Nat), Rqs Z H v d → Rqs Z H (v.take n) (d.take n)
  | _, _, 0, _ => .nil
  | _, _, _ + 1, .nil => .nil
  | _, _, n + 1, .cons r t => .cons r (Rqs.take n t)
theorem Rqs.drop : ∀ {v : List V} {d : List PyData} (n : Nat), Rqs Z H v d → Rqs Z H (v.drop n) (d.drop n)
  | _, _, 0, r => r
  | _, _, _ + 1, .nil => .nil
  | _, _, n + 1, .cons _ t => Rqs.drop n t
theorem Rqs.set {u : V} {x : PyData} (r : Rq Z H u x) : ∀ {v : List V} {d : List PyData} (n : Nat), Rqs Z H v d → Rqs Z H (v.set n u) (d.set n x)
  | _, _, _, .nil => .nil
  | _, _, 0, .cons _ t => .cons r t
  | _, _, n + 1, .cons q t => .cons q (Rqs.set r n t)
theorem Rqs.rep {v : List V} {d : List PyData} (r : Rqs Z H v d) : ∀ n : Nat, Rqs Z H (List.replicate n v).flatten (List.replicate n d).flatten
  | 0 => .nil
  | n + 1 => by rw [List.replicate_succ, List.replicate_succ, List.flatten_cons, List.flatten_cons]; exact r.append (Rqs.rep r n)
/-- ints are ints -/
theorem Rqs.ints : ∀ {v : List V} {ns : List Int}, Rqs Z H v (ns.map PyData.int) → v = ns.map V.int
  | _, [], .nil => rfl
  | _, n :: ns, .cons r t => by
    cases r
    rw [List.map_cons, Rqs.ints t]
theorem Rqs.strs : ∀ {v : List V} {ns : List Str}, Rqs Z H v (ns.map PyData.str) → v = ns.map V.str
  | _, [], .nil => rfl
  | _, n :: ns, .cons r t => by
    cases r
    rw [List.map_cons, Rqs.strs t]
theorem Rqs.bools : ∀ {v : List V} {ns : List Bool}, Rqs Z H v (ns.map PyData.bool) → v = ns.map V.bl
  | _, [], .nil => rfl
  | _, n :: ns, .cons r t => by
    cases r
    rw [List.map_cons, Rqs.bools t]
theorem Rqs.of_ints : ∀ (ns : List Int), Rqs Z H (ns.map V.int) (ns.map PyData.int)
  | [] => .nil
  | n :: ns => .cons (.int n) (Rqs.of_ints ns)
end
/-- what surrounds the code: the classes' addresses, what others may change (B) while G stands -/
structure Bg where
  cls : Str → Addr
  B : Addr → Prop
  G : Hp → Prop
  loc : ∀ H H' : Hp, (∀ a, B a → H' a = H a) → (∀ a o, still o → H a = some o → H' a = some o) → G H → G H'
  dom : ∀ (H : Hp) (a : Addr), G H → B a → H a ≠ none
/-- an error: its class's name, its fields -/
structure Er where
  n : Str
  fs : List (Str × PyData)
/-- fields -/
inductive Rqf (Z : Addr → Prop) (H : Hp) : List (Str × V) → List (Str × PyData) → Prop
  | nil : Rqf Z H [] []
  | cons {k : Str} {v : V} {d : PyData} {vs : List (Str × V)} {ds : List (Str × PyData)} : Rq Z H v d → Rqf Z H vs ds → Rqf Z H ((k, v) :: vs) ((k, d) :: ds)
section
variable {Z Z' : Addr → Prop} {H H' : Hp}
theorem Rqf.mono (hz : ∀ a, Z' a → Z a ∨ H a = none) (hs : ∀ a o, H a = some o → ¬ Z a → H' a = some o) : ∀ {v : List (Str × V)} {d : List (Str × PyData)}, Rqf Z H v d → Rqf Z' H' v d
  | _, _, .nil => .nil
  | _, _, .cons r t => .cons (r.mono hz hs) (Rqf.mono hz hs t)
theorem Rqf.look : ∀ {v : List (Str × V)} {d : List (Str × PyData)} {f : Str} {x : PyData}, Rqf Z H v d → d.lookup f = some x → ∃ u, v.lookup f = some u ∧ Rq Z H u x
  | _, _, _, _, .nil, e => by simp at e
  | _, _, f, x, .cons (k := k) r t, e => by
    rw [List.lookup_cons] at e
    rw [List.lookup_cons]
    cases h : f == k with
    | true => rw [h] at e; cases e; exact ⟨_, rfl, r⟩
    | false => rw [h] at e; exact Rqf.look t e
end
/-- v is worth d -/
def Rp (b : Bg) (Z : Addr → Prop) (H : Hp) (v : V) : D → Prop
  | .py p => Rq Z H v p
  | .obj a n fs => ∃ dx xs, v = .ref a ∧ H a = some (.ins (b.cls n) dx xs) ∧ ¬ Z a ∧ Rqf Z H xs fs
  | .abs A => ∃ a, v = .ref a ∧ ¬ Z a ∧ A.R Z H a
  | .raw u => v = u
  | .err a d _ fs => v = .ref a ∧ ((d = none ∧ fs = []) ∨ ∃ dd xs, d = some dd ∧ H dd = some (.xd xs) ∧ ¬ Z dd ∧ Rqf Z H xs fs)
inductive Rps (b : Bg) (Z : Addr → Prop) (H : Hp) : List V → List D → Prop
  | nil : Rps b Z H [] []
  | cons {v : V} {d : D} {vs : List V} {ds : List D} : Rp b Z H v d → Rps b Z H vs ds → Rps b Z H (v :: vs) (d :: ds)
section
variable {b : Bg} {Z Z' : Addr → Prop} {H H' : Hp}
theorem Rp.mono (hz : ∀ a, Z' a → Z a ∨ H a = none) (hs : ∀ a o, H a = some o → ¬ Z a → H' a = some o) {v : V} {d : D} (r : Rp b Z H v d) : Rp b Z' H' v d := by
  cases d with
  | py p => exact Rq.mono hz hs r
  | abs A =>
    obtain ⟨a, e, nz, q⟩ := r
    obtain ⟨o, h⟩ := A.at_ q
    exact ⟨a, e, fun z => (hz _ z).elim nz (fun q => by rw [h] at q; cases q), A.mono hz hs (fun o h => hs _ _ h nz) q⟩
  | obj a n fs =>
    obtain ⟨dx, xs, e, h, nz, q⟩ := r
    exact ⟨dx, xs, e, hs _ _ h nz, fun z => (hz _ z).elim nz (fun q => by rw [h] at q; cases q), q.mono hz hs⟩
  | raw u => exact r
  | err a d n fs =>
    obtain ⟨e, r⟩ := r
    refine ⟨e, r.imp id ?_⟩
    rintro ⟨dd, xs, e1, h, nz, q⟩
    exact ⟨dd, xs, e1, hs _ _ h nz, fun z => (hz _ z).elim nz (fun q => by rw [h] at q; cases q), q.mono hz hs⟩
theorem Rps.mono (hz : ∀ a, Z' a → Z a ∨ H a = none) (hs : ∀ a o, H a = some o → ¬ Z a → H' a = some o) : ∀ {v : List V} {d : List D}, Rps b Z H v d → Rps b Z' H' v d
  | _, _, .nil => .nil
  | _, _, .cons r t => .cons (r.mono hz hs) (Rps.mono hz hs t)
theorem Rps.length : ∀ {v : List V} {d : List D}, Rps b Z H v d → v.length = d.length
  | _, _, .nil => rfl
  | _, _, .cons _ t => congrArg (· + 1) (Rps.length t)
theorem Rps.pys : ∀ {v : List V} {d : List PyData}, Rps b Z H v (d.map D.py) → Rqs Z H v d
  | _, [], .nil => .nil
  | _, x :: d, .cons r t => .cons r (Rps.pys t)
theorem Rqs.to : ∀ {v : List V} {d : List PyData}, Rqs Z H v d → Rps b Z H v (d.map D.py)
  | _, _, .nil => .nil
  | _, _, .cons r t => .cons r (Rqs.to t)
end
/-- an owned object: it lies in Z itself, its items do not -/
def Ow (b : Bg) (Z : Addr → Prop) (H : Hp) (a : Addr) : D → Prop
  | .py (.list ds) => ∃ xs, H a = some (.lst xs) ∧ Rqs Z H xs ds
  | .py (.dict ds) => ∃ kvs, H a = some (.dK kvs) ∧ Rqk Z H kvs ds
  | .obj c n fs => a = c ∧ ∃ dx xs, H a = some (.ins (b.cls n) dx xs) ∧ Rqf Z H xs fs
  | .abs A => A.R Z H a
  | _ => False
section
variable {b : Bg} {Z Z' : Addr → Prop} {H H' : Hp} {a : Addr} {d : D}
theorem Ow.noext (h : Ow b Z H a d) (o : HO) (ho : still o) : H a ≠ some o := fun z => by
  cases d with
  | py p =>
    cases p with
    | list ds => obtain ⟨xs, e, _⟩ := h; rw [e] at z; cases z; exact ho
    | dict ds => obtain ⟨xs, e, _⟩ := h; rw [e] at z; cases z; exact ho
    | _ => exact False.elim h
  | obj c n fs => obtain ⟨_, _, _, e, _⟩ := h; rw [e] at z; cases z; exact ho
  | abs A => exact A.noext h o ho z
  | _ => exact False.elim h
theorem Ow.at (h : Ow b Z H a d) : ∃ o, H a = some o := by
  cases d with
  | py p =>
    cases p with
    | list ds => obtain ⟨xs, e, _⟩ := h; exact ⟨_, e⟩
    | dict ds => obtain ⟨xs, e, _⟩ := h; exact ⟨_, e⟩
    | _ => exact False.elim h
  | obj c n fs => obtain ⟨_, dx, xs, e, _⟩ := h; exact ⟨_, e⟩
  | abs A => exact A.at_ h
  | raw u => exact False.elim h
  | err _ _ _ _ => exact False.elim h
theorem Ow.mono (hz : ∀ a, Z' a → Z a ∨ H a = none) (hs : ∀ a o, H a = some o → ¬ Z a → H' a = some o) (ha : ∀ o, H a = some o → H' a = some o) (h : Ow b Z H a d) : Ow b Z' H' a d := by
  cases d with
  | py p =>
    cases p with
    | list ds => obtain ⟨xs, e, r⟩ := h; exact ⟨xs, ha _ e, r.mono hz hs⟩
    | dict ds => obtain ⟨xs, e, r⟩ := h; exact ⟨xs, ha _ e, r.mono hz hs⟩
    | _ => exact False.elim h
  | obj c n fs => obtain ⟨ec, dx, xs, e, r⟩ := h; exact ⟨ec, dx, xs, ha _ e, r.mono hz hs⟩
  | abs A => exact A.mono hz hs ha h
  | raw u => exact False.elim h
  | err _ _ _ _ => exact False.elim h
/-- given away -/
theorem Ow.rp (hz : ∀ a, Z' a → Z a) (na : ¬ Z' a) (h : Ow b Z H a d) : Rp b Z' H (.ref a) d := by
  have hm : ∀ a, Z' a → Z a ∨ H a = none := fun a z => .inl (hz a z)
  cases d with
  | py p =>
    cases p with
    | list ds => obtain ⟨xs, e, r⟩ := h; exact Rq.lst e na (r.mono hm fun _ _ e _ => e)
    | dict ds => obtain ⟨xs, e, r⟩ := h; exact Rq.dct e na (r.mono hm fun _ _ e _ => e)
    | _ => exact False.elim h
  | obj c n fs => obtain ⟨ec, dx, xs, e, r⟩ := h; subst ec; exact ⟨dx, xs, rfl, e, na, r.mono hm fun _ _ e _ => e⟩
  | abs A => exact ⟨a, rfl, na, A.mono hm (fun _ _ e _ => e) (fun _ e => e) h⟩
  | raw u => exact False.elim h
  | err _ _ _ _ => exact False.elim h
end
end VL
set_option Elab.async false
set_option linter.all false
set_option maxRecDepth 100000
set_option maxHeartbeats 4000000
namespace VL
open PySem PySem.Spec PyProof.Rows L2
/-- a name's slot: nothing known, a shared value, an object that nobody else holds -/
inductive Slot where
  | un | shr (d : D) | own (d : D)
abbrev VEnv := List Slot
/-- all that stood and may not be changed by others stands -/
def Ex (b : Bg) (H H' : Hp) : Prop := ∀ a o, H a = some o → ¬ b.B a → H' a = some o
section
variable {b : Bg} {H H1 H2 : Hp}
theorem Ex.refl : Ex b H H := fun _ _ e _ => e
theorem Ex.trans (x : Ex b H H1) (y : Ex b H1 H2) : Ex b H H2 := fun a o e n => y a o (x a o e n) n
theorem Ex.new {a : Addr} {o : HO} (h : H a = none) : Ex b H (upd H a o) := fun c u e _ => by
  rw [upd_ne (ne_of_none e h)]
  exact e
theorem Bg.new {a : Addr} {o : HO} (g : b.G H) (h : H a = none) : b.G (upd H a o) :=
  b.loc H _ (fun c hc => upd_ne fun e => b.dom H c g hc (by rw [e]; exact h)) (fun c o _ e => by rw [upd_ne (ne_of_none e h)]; exact e) g
end
/-- the names' values and what they own. Zo: what the callers own, and B; Z: all that is owned now -/
structure VOk (b : Bg) (Zo Z : Addr → Prop) (σ : L2.St) (H : Hp) (ρ : VEnv) : Prop where
  g : b.G H
  zb : ∀ a, b.B a → Zo a
  zo : ∀ a, Zo a → Z a
  dom : ∀ a, Z a → H a ≠ none
  zi : ∀ a, Z a → Zo a ∨ ∃ (i : Nat) (d : D), ρ[i]? = some (.own d) ∧ σ[i]? = some (some (.ref a))
  own : ∀ (i : Nat) (d : D), ρ[i]? = some (.own d) → ∃ a, σ[i]? = some (some (.ref a)) ∧ Z a ∧ ¬ Zo a ∧ Ow b Z H a d
  inj : ∀ (i j : Nat) (d e : D) (a : Addr), ρ[i]? = some (.own d) → ρ[j]? = some (.own e) → σ[i]? = some (some (.ref a)) → σ[j]? = some (some (.ref a)) → i = j
  shr : ∀ (i : Nat) (d : D), ρ[i]? = some (.shr d) → ∃ v, σ[i]? = some (some v) ∧ Rp b Z H v d
  len : ρ.length = σ.length
section
variable {b : Bg} {Zo Z : Addr → Prop} {σ : L2.St} {H H' : Hp} {ρ : VEnv}
theorem VOk.nb (v : VOk b Zo Z σ H ρ) {a : Addr} (h : ¬ Z a) : ¬ b.B a := fun z => h (v.zo _ (v.zb _ z))
theorem VOk.fresh (v : VOk b Zo Z σ H ρ) {a : Addr} (h : H a = none) : ¬ Z a := fun z => v.dom a z h
theorem VOk.keep (v : VOk b Zo Z σ H ρ) (x : Ex b H H') : ∀ a o, H a = some o → ¬ Z a → H' a = some o := fun a o e n => x a o e (v.nb n)
theorem VOk.rp (v : VOk b Zo Z σ H ρ) (x : Ex b H H') {u : V} {d : D} (r : Rp b Z H u d) : Rp b Z H' u d := r.mono (fun a z => .inl z) (v.keep x)
theorem VOk.rps (v : VOk b Zo Z σ H ρ) (x : Ex b H H') {u : List V} {d : List D} (r : Rps b Z H u d) : Rps b Z H' u d := r.mono (fun a z => .inl z) (v.keep x)
theorem VOk.rq (v : VOk b Zo Z σ H ρ) (x : Ex b H H') {u : V} {d : PyData} (r : Rq Z H u d) : Rq Z H' u d := r.mono (fun a z => .inl z) (v.keep x)
theorem VOk.rqs (v : VOk b Zo Z σ H ρ) (x : Ex b H H') {u : List V} {d : List PyData} (r : Rqs Z H u d) : Rqs Z H' u d := r.mono (fun a z => .inl z) (v.keep x)
/-- behind an expression -/
theorem VOk.ex (v : VOk b Zo Z σ H ρ) (x : Ex b H H') (g : b.G H') : VOk b Zo Z σ H' ρ where
  g := g
  zb := v.zb
  zo := v.zo
  dom := fun a z => by
    by_cases hb : b.B a
    · exact b.dom H' a g hb
    · cases e : H a with
      | none => exact absurd e (v.dom a z)
      | some o => rw [x a o e hb]; simp
  zi := v.zi
  own := fun i d e => by
    obtain ⟨a, h1, h2, h3, h4⟩ := v.own i d e
    exact ⟨a, h1, h2, h3, h4.mono (fun _ z => .inl z) (v.keep x) fun o q => x a o q fun z => h3 (v.zb a z)⟩
  inj := v.inj
  shr := fun i d e => by
    obtain ⟨u, h1, h2⟩ := v.shr i d e
    exact ⟨u, h1, v.rp x h2⟩
  len := v.len
end
/-! ### readings -/
abbrev VT := VEnv → (D → Prop) → (Er → Prop) → Prop
abbrev VB := VEnv → (Bool → Prop) → (Er → Prop) → Prop
abbrev VA := VEnv → (List D → Prop) → (Er → Prop) → Prop
/-- an error as it lies: its class, its own dict -/
def ErRp (b : Bg) (Z : Addr → Prop) (H : Hp) (c : Value) (d : Option Addr) (er : Er) : Prop :=
  c = .ref (b.cls er.n) ∧ ((d = none ∧ er.fs = []) ∨ ∃ a xs, d = some a ∧ H a = some (.xd xs) ∧ ¬ Z a ∧ Rqf Z H xs er.fs)
/-- a borrowed value: it may be an owned object itself -/
def Rb (b : Bg) (Z : Addr → Prop) (H : Hp) (v : V) (d : D) : Prop := Rp b Z H v d ∨ ∃ a, v = .ref a ∧ ¬ b.B a ∧ Z a ∧ Ow b Z H a d
/-- a new object that nobody holds -/
def Rn (b : Bg) (Z : Addr → Prop) (H0 H : Hp) (v : V) (d : D) : Prop := ∃ a, v = .ref a ∧ H0 a = none ∧ Ow b (fun c => Z c ∨ c = a) H a d
/-- how a reading over values is one over the heap -/
def LE (b : Bg) (W : WX) (R : (Addr → Prop) → Hp → Hp → V → D → Prop) (t : VT) : TE := fun σ H Q => ∃ Zo Z ρ Qd Ed, VOk b Zo Z σ H ρ ∧ t ρ Qd Ed ∧
  (∀ v H' d, Ex b H H' → b.G H' → R Z H H' v d → Qd d → Q v H') ∧ ∀ c x H' er, Ex b H H' → b.G H' → ErRp b Z H' c x er → Ed er → W c x σ H'
def LB (b : Bg) (W : WX) (t : VB) : TT := fun σ H Q => ∃ Zo Z ρ Qd Ed, VOk b Zo Z σ H ρ ∧ t ρ Qd Ed ∧
  (∀ k H', Ex b H H' → b.G H' → Qd k → Q k H') ∧ ∀ c x H' er, Ex b H H' → b.G H' → ErRp b Z H' c x er → Ed er → W c x σ H'
def LA (b : Bg) (W : WX) (t : VA) : TA := fun σ H Q => ∃ Zo Z ρ Qd Ed, VOk b Zo Z σ H ρ ∧ t ρ Qd Ed ∧
  (∀ v H' d, Ex b H H' → b.G H' → Rps b Z H' v d → Qd d → Q v H') ∧ ∀ c x H' er, Ex b H H' → b.G H' → ErRp b Z H' c x er → Ed er → W c x σ H'
/-- an expression: its value; borrowed; new -/
def VE (X : Cx) (b : Bg) (W : WX) (e : Expr) (t : VT) : Prop := PE X e (LE b W (fun Z _ H v d => Rp b Z H v d) t)
def VX (X : Cx) (b : Bg) (W : WX) (e : Expr) (t : VT) : Prop := PE X e (LE b W (fun Z _ H v d => Rb b Z H v d) t)
def VN (X : Cx) (b : Bg) (W : WX) (e : Expr) (t : VT) : Prop := PE X e (LE b W (fun Z H0 H v d => Rn b Z H0 H v d) t)
def VTe (X : Cx) (b : Bg) (W : WX) (e : Expr) (t : VB) : Prop := PT X e (LB b W t)
def VAs (X : Cx) (b : Bg) (W : WX) (es : List Expr) (t : VA) : Prop := PA X es (LA b W t)
theorem pe_mono {X : Cx} {e : Expr} {t t' : TE} (h : PE X e t) (m : ∀ σ H Q, t' σ H Q → t σ H Q) : PE X e t' :=
  ⟨fun pins s σ H Q I q => h.run pins s σ H Q I (m σ H Q q)⟩
theorem pt_mono {X : Cx} {e : Expr} {t t' : TT} (h : PT X e t) (m : ∀ σ H Q, t' σ H Q → t σ H Q) : PT X e t' :=
  ⟨fun pins s σ H Q I q => h.run pins s σ H Q I (m σ H Q q)⟩
theorem pa_mono {X : Cx} {e : List Expr} {t t' : TA} (h : PA X e t) (m : ∀ σ H Q, t' σ H Q → t σ H Q) : PA X e t' :=
  ⟨fun pos pins s σ H Q I q => h.run pos pins s σ H Q I (m σ H Q q)⟩
theorem ps_mono {X : Cx} {e : Stmt} {t t' : TS} (h : PS X e t) (m : ∀ D σ H, t' D σ H → t D σ H) : PS X e t' :=
  ⟨fun pins s σ H D I q => h.run pins s σ H D I (m D σ H q)⟩
theorem pss_mono {X : Cx} {e : List Stmt} {t t' : TS} (h : PSs X e t) (m : ∀ D σ H, t' D σ H → t D σ H) : PSs X e t' :=
  ⟨fun pins s σ H D I q => h.run pins s σ H D I (m D σ H q)⟩
section
variable {X : Cx} {b : Bg} {W : WX} {e e1 e2 : Expr} {es : List Expr} {t t1 t2 : VT} {pos : Pos}
theorem VE.toX (h : VE X b W e t) : VX X b W e t := pe_mono h fun σ H Q ⟨Zo, Z, ρ, Qd, Ed, v, q, l, m⟩ => ⟨Zo, Z, ρ, Qd, Ed, v, q, fun u H' d x g r => l u H' d x g (.inl r), m⟩
theorem VN.toE (h : VN X b W e t) : VE X b W e t := pe_mono h fun σ H Q ⟨Zo, Z, ρ, Qd, Ed, v, q, l, m⟩ => ⟨Zo, Z, ρ, Qd, Ed, v, q, fun u H' d x g ⟨a, e, n, o⟩ => by
  subst e
  exact l _ H' d x g (o.rp (fun _ z => .inl z) (v.fresh n)), m⟩
theorem VN.toX (h : VN X b W e t) : VX X b W e t := VE.toX (VN.toE h)
/-! ### names, constants -/
@[simp] def vVar (i : Nat) : VT := fun ρ Q _ => ∃ d, ρ[i]? = some (.shr d) ∧ Q d
@[simp] def vBor (i : Nat) : VT := fun ρ Q _ => ∃ d, (ρ[i]? = some (.shr d) ∨ ρ[i]? = some (.own d)) ∧ Q d
@[simp] def vC (d : D) : VT := fun _ Q _ => Q d
theorem ve_var {i : Nat} (h : PE X e (tVar i)) : VE X b W e (vVar i) := pe_mono h fun σ H Q ⟨Zo, Z, ρ, Qd, Ed, v, ⟨d, e, q⟩, l, _⟩ => by
  obtain ⟨u, h1, h2⟩ := v.shr i d e
  exact ⟨u, h1, l u H d Ex.refl v.g h2 q⟩
theorem vx_var {i : Nat} (h : PE X e (tVar i)) : VX X b W e (vBor i) := pe_mono h fun σ H Q ⟨Zo, Z, ρ, Qd, Ed, v, ⟨d, e, q⟩, l, _⟩ => by
  rcases e with e | e
  · obtain ⟨u, h1, h2⟩ := v.shr i d e
    exact ⟨u, h1, l u H d Ex.refl v.g (.inl h2) q⟩
  · obtain ⟨a, h1, h2, h3, h4⟩ := v.own i d e
    exact ⟨.ref a, h1, l _ H d Ex.refl v.g (.inr ⟨a, rfl, fun z => h3 (v.zb a z), h2, h4⟩) q⟩
theorem ve_const {v : V} {p : PyData} (h : PE X e (tC v)) (r : ∀ (Z : Addr → Prop) (H : Hp), Rq Z H v p) : VE X b W e (vC (.py p)) :=
  pe_mono h fun σ H Q ⟨Zo, Z, ρ, Qd, Ed, v, q, l, _⟩ => l _ H (.py p) Ex.refl v.g (r Z H) q
theorem ve_int {i : Int} {j} : VE X b W (.Constant (.int i) j pos) (vC (.py (.int i))) := ve_const pe_int fun _ _ => .int i
theorem ve_bl {k : Bool} {j} : VE X b W (.Constant (.bool k) j pos) (vC (.py (.bool k))) := ve_const pe_bl fun _ _ => .bl k
theorem ve_non {j} : VE X b W (.Constant .none j pos) (vC (.py .none)) := ve_const pe_non fun _ _ => .non
theorem ve_str {x : Str} {j} : VE X b W (.Constant (.str x) j pos) (vC (.py (.str x))) := ve_const pe_str fun _ _ => .str x
theorem ve_raw {v : V} (h : PE X e (tC v)) : VE X b W e (vC (.raw v)) :=
  pe_mono h fun σ H Q ⟨Zo, Z, ρ, Qd, Ed, u, q, l, _⟩ => l v H (.raw v) Ex.refl u.g rfl q
/-! ### argument lists, displays -/
@[simp] def vNil : VA := fun _ Q _ => Q []
@[simp] def vCons (t : VT) (u : VA) : VA := fun ρ Q E => t ρ (fun d => u ρ (fun ds => Q (d :: ds)) E) E
theorem va_nil : VAs X b W [] vNil := pa_mono pa_nil fun σ H Q ⟨Zo, Z, ρ, Qd, Ed, v, q, l, _⟩ => l [] H [] Ex.refl v.g .nil q
theorem va_cons {u : VA} (h : VE X b W e t) (k : VAs X b W es u) (hs : starEach (e :: es) X.env = (false, eval e X.env) :: starEach es X.env := by rfl) : VAs X b W (e :: es) (vCons t u) :=
  pa_mono (pa_cons h k hs) fun σ H Q ⟨Zo, Z, ρ, Qd, Ed, v, q, l, m⟩ => ⟨Zo, Z, ρ, _, Ed, v, q, fun x H1 d x1 g1 r1 q1 =>
    ⟨Zo, Z, ρ, _, Ed, v.ex x1 g1, q1, fun xs H2 ds x2 g2 r2 q2 => l (x :: xs) H2 (d :: ds) (x1.trans x2) g2 (.cons ((v.ex x1 g1).rp x2 r1) r2) q2, fun c y H2 er x2 g2 r2 q2 => m c y H2 er (x1.trans x2) g2 r2 q2⟩, m⟩
@[simp] def pys : List D → Option (List PyData)
  | [] => some []
  | .py p :: ds => (pys ds).map (p :: ·)
  | _ :: _ => none
theorem pys_of : ∀ {ds : List D} {ps : List PyData}, pys ds = some ps → ds = ps.map D.py
  | [], ps, h => by cases h; rfl
  | .py p :: ds, ps, h => by
    cases e : pys ds with
    | none => rw [pys, e] at h; cases h
    | some qs => rw [pys, e] at h; cases h; rw [List.map_cons, ← pys_of e]
  | .obj _ _ _ :: _, _, h => by cases h
  | .abs _ :: _, _, h => by cases h
  | .raw _ :: _, _, h => by cases h
  | .err _ _ _ _ :: _, _, h => by cases h
theorem Rqs.up' {Z : Addr → Prop} {H : Hp} {a : Addr} {o : HO} {v : List V} {ds : List PyData} (r : Rqs Z H v ds) (h : H a = none) : Rqs (fun c => Z c ∨ c = a) (upd H a o) v ds :=
  r.mono (fun c z => z.imp id fun e => by rw [e]; exact h) fun c u e _ => by
    rw [upd_ne (ne_of_none e h)]
    exact e
/-- a tuple, a list of written items -/
@[simp] def vTup (u : VA) : VT := fun ρ Q E => u ρ (fun ds => ∃ ps, pys ds = some ps ∧ ps.length ≤ sizeLine ∧ Q (.py (.tuple ps))) E
@[simp] def vLst (u : VA) : VT := fun ρ Q E => u ρ (fun ds => ∃ ps, pys ds = some ps ∧ ps.length ≤ sizeLine ∧ Q (.py (.list ps))) E
theorem Rps.pyL {Z : Addr → Prop} {H : Hp} {v : List V} {ds : List D} {ps : List PyData} (r : Rps b Z H v ds) (e : VL.pys ds = some ps) : Rqs Z H v ps := by
  rw [pys_of e] at r
  exact r.pys
theorem up {Z : Addr → Prop} {H : Hp} {a : Addr} {o : HO} (h : H a = none) : ∀ c u, H c = some u → ¬ Z c → upd H a o c = some u := fun c u e _ => by
  rw [upd_ne (ne_of_none e h)]
  exact e
theorem Rqs.up {Z : Addr → Prop} {H : Hp} {a : Addr} {o : HO} {v : List V} {ds : List PyData} (r : Rqs Z H v ds) (h : H a = none) : Rqs Z (upd H a o) v ds := r.mono (fun _ z => .inl z) (VL.up h)
theorem ve_tup {u : VA} {x1} (k : VAs X b W es u) : VE X b W (.Tuple es x1 pos) (vTup u) :=
  pe_mono (pe_tupF k) fun σ H Q ⟨Zo, Z, ρ, Qd, Ed, v, q, l, m⟩ => ⟨Zo, Z, ρ, _, Ed, v, q, fun xs H1 ds x1 g1 r1 ⟨ps, e, hl, q1⟩ => by
    have r2 := r1.pyL e
    refine ⟨by rw [r2.length]; exact hl, fun p o hp ho => l _ _ _ (x1.trans (Ex.new hp)) (Bg.new g1 hp) ?_ q1⟩
    exact Rq.tup upd_same ho ((v.ex x1 g1).fresh hp) (r2.up hp), m⟩
theorem vn_lst {u : VA} (k : VAs X b W es u) : VN X b W (.List es pos) (vLst u) :=
  pe_mono (pe_lst k) fun σ H Q ⟨Zo, Z, ρ, Qd, Ed, v, q, l, m⟩ => ⟨Zo, Z, ρ, _, Ed, v, q, fun xs H1 ds x1 g1 r1 ⟨ps, e, hl, q1⟩ => (by
    have r2 := r1.pyL e
    refine ⟨by rw [r2.length]; exact hl, fun p hp => l _ _ (.py (.list ps)) (x1.trans (Ex.new hp)) (Bg.new g1 hp) ⟨p, rfl, ?_, xs, upd_same, r2.up' hp⟩ q1⟩
    cases e : H p with
    | none => rfl
    | some o =>
      by_cases hb : b.B p
      · exact absurd hp (b.dom _ _ g1 hb)
      · rw [x1 p o e hb] at hp; cases hp), m⟩
end
end VL
set_option Elab.async false
set_option linter.all false
set_option maxRecDepth 100000
set_option maxHeartbeats 4000000
namespace VL
open PySem PySem.Spec PyProof.Rows L2
/-! ### what a borrowed value is -/
section
variable {b : Bg} {Z : Addr → Prop} {H : Hp} {v : V}
theorem Rb.list {ds : List PyData} (r : Rb b Z H v (.py (.list ds))) : ∃ a xs, v = .ref a ∧ H a = some (.lst xs) ∧ Rqs Z H xs ds := by
  rcases r with r | ⟨a, e, _, _, xs, h, q⟩
  · cases r with
    | lst e n q => exact ⟨_, _, rfl, e, q⟩
  · exact ⟨a, xs, e, h, q⟩
theorem Rb.dict {ds : List (PyData × PyData)} (r : Rb b Z H v (.py (.dict ds))) : ∃ a xs, v = .ref a ∧ H a = some (.dK xs) ∧ Rqk Z H xs ds := by
  rcases r with r | ⟨a, e, _, _, xs, h, q⟩
  · cases r with
    | dct e n q => exact ⟨_, _, rfl, e, q⟩
  · exact ⟨a, xs, e, h, q⟩
theorem Rb.tuple {ds : List PyData} (r : Rb b Z H v (.py (.tuple ds))) : ∃ a o xs, v = .ref a ∧ H a = some (HO.th o xs) ∧ o.dict = none ∧ ¬ Z a ∧ Rqs Z H xs ds := by
  rcases r with r | ⟨a, e, _, _, q⟩
  · cases r with
    | tup e d n q => exact ⟨_, _, _, rfl, e, d, n, q⟩
  · exact q.elim
theorem Rb.int {i : Int} (r : Rb b Z H v (.py (.int i))) : v = .int i := by
  rcases r with r | ⟨a, e, _, _, q⟩
  · cases r; rfl
  · exact q.elim
theorem Rb.str {i : Str} (r : Rb b Z H v (.py (.str i))) : v = .str i := by
  rcases r with r | ⟨a, e, _, _, q⟩
  · cases r; rfl
  · exact q.elim
theorem Rb.bool {i : Bool} (r : Rb b Z H v (.py (.bool i))) : v = .bl i := by
  rcases r with r | ⟨a, e, _, _, q⟩
  · cases r; rfl
  · exact q.elim
theorem Rb.none (r : Rb b Z H v (.py .none)) : v = .non := by
  rcases r with r | ⟨a, e, _, _, q⟩
  · cases r; rfl
  · exact q.elim
theorem Rb.obj {a : Addr} {n : Str} {fs : List (Str × PyData)} (r : Rb b Z H v (.obj a n fs)) : ∃ dx xs, v = .ref a ∧ H a = some (.ins (b.cls n) dx xs) ∧ Rqf Z H xs fs := by
  rcases r with ⟨dx, xs, e, h, _, q⟩ | ⟨a, e, _, _, rfl, dx, xs, h, q⟩
  · exact ⟨dx, xs, e, h, q⟩
  · exact ⟨dx, xs, e, h, q⟩
theorem Rb.ex {H' : Hp} (hk : ∀ a o, H a = some o → ¬ Z a → H' a = some o) (x : Ex b H H') {d : D} (r : Rb b Z H v d) : Rb b Z H' v d := by
  rcases r with r | ⟨a, e, nb, z, q⟩
  · exact .inl (r.mono (fun _ z => .inl z) hk)
  · exact .inr ⟨a, e, nb, z, q.mono (fun _ z => .inl z) hk fun o h => x a o h nb⟩
end
/-- the ground of a rule by values: G stands, B lies in Z, Z is there -/
structure Gd (b : Bg) (Z : Addr → Prop) (H : Hp) : Prop where
  g : b.G H
  zb : ∀ a, b.B a → Z a
  dom : ∀ a, Z a → H a ≠ none
theorem VOk.gd {b : Bg} {Zo Z : Addr → Prop} {σ : L2.St} {H : Hp} {ρ : VEnv} (v : VOk b Zo Z σ H ρ) : Gd b Z H := ⟨v.g, fun a z => v.zo a (v.zb a z), v.dom⟩
section
variable {b : Bg} {Z : Addr → Prop} {H : Hp}
theorem Gd.fresh (g : Gd b Z H) {a : Addr} (h : H a = none) : ¬ Z a := fun z => g.dom a z h
theorem Gd.new (g : Gd b Z H) {a : Addr} {o : HO} (h : H a = none) : b.G (upd H a o) := Bg.new g.g h
end
/-- a rule by the heap's values serves a reading g over values; R: what comes of it -/
def OpD (b : Bg) (R : (Addr → Prop) → Hp → Hp → V → D → Prop) (r : R2) (g : D → D → (D → Prop) → Prop) : Prop :=
  ∀ (Z : Addr → Prop) (H : Hp) (x y : V) (dx dy : D) (Q : VK) (Qd : D → Prop), Gd b Z H → Rb b Z H x dx → Rb b Z H y dy → g dx dy Qd →
    (∀ v H' d, Ex b H H' → b.G H' → R Z H H' v d → Qd d → Q v H') → r x y H Q
abbrev RE (b : Bg) : (Addr → Prop) → Hp → Hp → V → D → Prop := fun Z _ H v d => Rp b Z H v d
abbrev RN (b : Bg) : (Addr → Prop) → Hp → Hp → V → D → Prop := fun Z H0 H v d => Rn b Z H0 H v d
@[simp] def vBin (g : D → D → (D → Prop) → Prop) (ta tb : VT) : VT := fun ρ Q E => ta ρ (fun x => tb ρ (fun y => g x y Q) E) E
@[simp] def vUn (g : D → (D → Prop) → Prop) (ta : VT) : VT := fun ρ Q E => ta ρ (fun x => g x Q) E
theorem Rn.of {b : Bg} {Z : Addr → Prop} {H H1 H2 : Hp} {v : V} {d : D} (g : b.G H1) (x : Ex b H H1) (r : Rn b Z H1 H2 v d) : Rn b Z H H2 v d := by
  obtain ⟨a, e, h, o⟩ := r
  refine ⟨a, e, ?_, o⟩
  cases q : H a with
  | none => rfl
  | some u =>
    by_cases hb : b.B a
    · exact absurd h (b.dom _ _ g hb)
    · rw [x a u q hb] at h; cases h
section
variable {X : Cx} {b : Bg} {W : WX} {e e1 e2 e3 : Expr} {es : List Expr} {t t1 t2 t3 : VT} {pos : Pos} {r : R2} {g : D → D → (D → Prop) → Prop}
/-- the core of all rules of two values -/
theorem core2 {R : (Addr → Prop) → Hp → Hp → V → D → Prop} (hR : ∀ Z H H1 H2 v d, b.G H1 → Ex b H H1 → R Z H1 H2 v d → R Z H H2 v d) (hd : OpD b R r g) :
    ∀ σ H Q, LE b W R (vBin g t1 t2) σ H Q → tOp r (LE b W (fun Z _ H v d => Rb b Z H v d) t1) (LE b W (fun Z _ H v d => Rb b Z H v d) t2) σ H Q :=
  fun σ H Q ⟨Zo, Z, ρ, Qd, Ed, v, q, l, m⟩ => ⟨Zo, Z, ρ, _, Ed, v, q, fun x H1 d x1 g1 r1 q1 =>
    ⟨Zo, Z, ρ, _, Ed, v.ex x1 g1, q1, fun y H2 d2 x2 g2 r2 q2 =>
      hd Z H2 x y d d2 Q Qd ((v.ex x1 g1).ex x2 g2).gd (r1.ex ((v.ex x1 g1).keep x2) x2) r2 q2 fun u H3 d3 x3 g3 r3 q3 => l u H3 d3 ((x1.trans x2).trans x3) g3 (hR _ _ _ _ _ _ g2 (x1.trans x2) r3) q3,
      fun c z H2 er x2 g2 r2 q2 => m c z H2 er (x1.trans x2) g2 r2 q2⟩, m⟩
theorem hRE : ∀ (Z : Addr → Prop) (H H1 H2 : Hp) (v : V) (d : D), b.G H1 → Ex b H H1 → RE b Z H1 H2 v d → RE b Z H H2 v d := fun _ _ _ _ _ _ _ _ r => r
theorem hRN : ∀ (Z : Addr → Prop) (H H1 H2 : Hp) (v : V) (d : D), b.G H1 → Ex b H H1 → RN b Z H1 H2 v d → RN b Z H H2 v d := fun _ _ _ _ _ _ g x r => r.of g x
theorem ve_op {op : Operator} (ho : OpR X (binaryOp op) r) (hd : OpD b (RE b) r g) (h1 : VX X b W e1 t1) (h2 : VX X b W e2 t2) : VE X b W (.BinOp e1 op e2 pos) (vBin g t1 t2) :=
  pe_mono (pe_op ho h1 h2) (core2 hRE hd)
theorem vn_op {op : Operator} (ho : OpR X (binaryOp op) r) (hd : OpD b (RN b) r g) (h1 : VX X b W e1 t1) (h2 : VX X b W e2 t2) : VN X b W (.BinOp e1 op e2 pos) (vBin g t1 t2) :=
  pe_mono (pe_op ho h1 h2) (core2 hRN hd)
theorem ve_cmp {op : CmpOp} (ho : OpR X (compareOp op) r) (hd : OpD b (RE b) r g) (h1 : VX X b W e1 t1) (h2 : VX X b W e2 t2) (hm : behindInMarks op e2 = false) : VE X b W (.Compare e1 [op] [e2] pos) (vBin g t1 t2) :=
  pe_mono (pe_cmpR ho h1 h2 hm) (core2 hRE hd)
/-- a value that is a bool, as a test -/
@[simp] def vTst (t : VT) : VB := fun ρ Q E => t ρ (fun d => ∃ k, d = .py (.bool k) ∧ Q k) E
theorem core2t (hd : OpD b (RE b) r g) : ∀ σ H Q, LB b W (vTst (vBin g t1 t2)) σ H Q → tTest (tOp r (LE b W (fun Z _ H v d => Rb b Z H v d) t1) (LE b W (fun Z _ H v d => Rb b Z H v d) t2)) σ H Q :=
  fun σ H Q ⟨Zo, Z, ρ, Qd, Ed, v, q, l, m⟩ => core2 (t1 := t1) (t2 := t2) hRE hd σ H _ ⟨Zo, Z, ρ, _, Ed, v, q, fun x H1 d x1 g1 r1 ⟨k, e, q1⟩ => ⟨k, by
    subst e
    exact Rb.bool (b := b) (.inl r1), l k H1 x1 g1 q1⟩, m⟩
theorem vt_cmp {op : CmpOp} (ho : OpR X (compareOp op) r) (hd : OpD b (RE b) r g) (h1 : VX X b W e1 t1) (h2 : VX X b W e2 t2) (hm : behindInMarks op e2 = false) : VTe X b W (.Compare e1 [op] [e2] pos) (vTst (vBin g t1 t2)) :=
  pt_mono (pt_cmpR ho h1 h2 hm) (core2t hd)
/-- any expression whose value is a bool, as a test -/
theorem vt_val (h : VX X b W e t) (he : ∀ whole, isTrue e X.env whole = (do let v ← whole; standAt e.pos; holding [v] (truthy v)) := by intro _; rfl) : VTe X b W e (vTst t) :=
  pt_mono (pt_val h he) fun σ H Q ⟨Zo, Z, ρ, Qd, Ed, v, q, l, m⟩ => ⟨Zo, Z, ρ, _, Ed, v, q, fun x H1 d x1 g1 r1 ⟨k, e, q1⟩ => ⟨k, by
    subst e
    exact r1.bool, l k H1 x1 g1 q1⟩, m⟩
/-! ### arithmetic -/
@[simp] def gAdd : D → D → (D → Prop) → Prop
  | .py (.int i), .py (.int j), Q => Q (.py (.int (i + j)))
  | .py (.str x), .py (.str y), Q => x.length + y.length ≤ sizeLine ∧ Q (.py (.str (x ++ y)))
  | .py (.list x), .py (.list y), Q => x.length + y.length ≤ sizeLine ∧ Q (.py (.list (x ++ y)))
  | .py (.tuple x), .py (.tuple y), Q => x.length + y.length ≤ sizeLine ∧ Q (.py (.tuple (x ++ y)))
  | _, _, _ => False
@[simp] def gCat : D → D → (D → Prop) → Prop
  | .py (.list x), .py (.list y), Q => x.length + y.length ≤ sizeLine ∧ Q (.py (.list (x ++ y)))
  | _, _, _ => False
theorem rn_catL : OpD b (RN b) rCat gCat := by
  intro Z H x y dx dy Q Qd gd rx ry h k
  match dx, dy, h, rx, ry with
  | .py (.list xs), .py (.list ys), ⟨hl, h⟩, rx, ry =>
    obtain ⟨a, us, rfl, ha, qa⟩ := rx.list
    obtain ⟨c, ws, rfl, hc, qc⟩ := ry.list
    refine ⟨a, c, us, ws, rfl, rfl, ha, hc, by rw [qa.length, qc.length]; exact hl, fun p hp => k _ _ (.py (.list (xs ++ ys))) (Ex.new hp) (gd.new hp) ⟨p, rfl, hp, _, upd_same, (qa.append qc).up' hp⟩ h⟩
theorem OpD.toE {r : R2} {g : D → D → (D → Prop) → Prop} (h : OpD b (RN b) r g) : OpD b (RE b) r g := fun Z H x y dx dy Q Qd gd rx ry q k =>
  h Z H x y dx dy Q Qd gd rx ry q fun v H' d x1 g1 ⟨a, e, n, o⟩ q1 => k v H' d x1 g1 (by subst e; exact o.rp (fun _ z => .inl z) (gd.fresh n)) q1
theorem rd_add : OpD b (RE b) (fun x y H Q => rI0 (fun i j => .int (i + j)) x y H Q ∨ (fun x y H Q => (∃ i j, x = .str i ∧ y = .str j ∧ i.length + j.length ≤ sizeLine ∧ Q (.str (i ++ j)) H) ∨ (fun x y H Q => rCat x y H Q ∨ rCatF X.K x y H Q) x y H Q) x y H Q) gAdd := by
  intro Z H x y dx dy Q Qd gd rx ry h k
  match dx, dy, h, rx, ry with
  | .py (.int i), .py (.int j), h, rx, ry =>
    rw [rx.int, ry.int]
    exact .inl ⟨i, j, rfl, rfl, k _ H (.py (.int (i + j))) Ex.refl gd.g (.int _) h⟩
  | .py (.str i), .py (.str j), ⟨hl, h⟩, rx, ry =>
    rw [rx.str, ry.str]
    exact .inr (.inl ⟨i, j, rfl, rfl, hl, k _ H (.py (.str (i ++ j))) Ex.refl gd.g (.str _) h⟩)
  | .py (.list xs), .py (.list ys), h, rx, ry =>
    exact .inr (.inr (.inl (OpD.toE rn_catL Z H x y (.py (.list xs)) (.py (.list ys)) Q Qd gd rx ry h k)))
  | .py (.tuple xs), .py (.tuple ys), ⟨hl, h⟩, rx, ry =>
    obtain ⟨a, oa, us, rfl, ha, da, na, qa⟩ := rx.tuple
    obtain ⟨c, oc, ws, rfl, hc, dc, nc, qc⟩ := ry.tuple
    refine .inr (.inr (.inr ⟨a, c, us, ws, rfl, rfl, SqT.th ha, SqT.th hc, by rw [qa.length, qc.length]; exact hl, fun e => ?_, fun _ e => ?_, fun _ _ p o hp ho => ?_⟩))
    · subst e
      cases qa
      exact k _ H (.py (.tuple ys)) Ex.refl gd.g (.tup hc dc nc qc) h
    · subst e
      cases qc
      rw [List.append_nil] at h
      exact k _ H (.py (.tuple xs)) Ex.refl gd.g (.tup ha da na qa) h
    · exact k _ _ (.py (.tuple (xs ++ ys))) (Ex.new hp) (gd.new hp) (.tup upd_same ho (gd.fresh hp) ((qa.append qc).up hp)) h
theorem ve_add (h1 : VX X b W e1 t1) (h2 : VX X b W e2 t2) : VE X b W (.BinOp e1 .Add e2 pos) (vBin gAdd t1 t2) := ve_op (OpR.or op_add (OpR.or op_add_str (OpR.or op_cat op_catF))) rd_add h1 h2
/-- ints in, under C; a plain value out -/
@[simp] def gI (C : Int → Int → Prop) (f : Int → Int → PyData) : D → D → (D → Prop) → Prop
  | .py (.int i), .py (.int j), Q => C i j ∧ Q (.py (f i j))
  | _, _, _ => False
theorem rd_I {C : Int → Int → Prop} {f : Int → Int → V} {f' : Int → Int → PyData} (hf : ∀ (Z : Addr → Prop) (H : Hp) i j, Rq Z H (f i j) (f' i j)) : OpD b (RE b) (rI C f) (gI C f') := by
  intro Z H x y dx dy Q Qd gd rx ry h k
  match dx, dy, h, rx, ry with
  | .py (.int i), .py (.int j), ⟨hc, h⟩, rx, ry =>
    rw [rx.int, ry.int]
    exact ⟨i, j, rfl, rfl, hc, k _ H (.py (f' i j)) Ex.refl gd.g (hf Z H i j) h⟩
/-- .. without a condition -/
@[simp] def gI0 (f : Int → Int → PyData) : D → D → (D → Prop) → Prop
  | .py (.int i), .py (.int j), Q => Q (.py (f i j))
  | _, _, _ => False
theorem rd_I0 {f : Int → Int → V} {f' : Int → Int → PyData} (hf : ∀ (Z : Addr → Prop) (H : Hp) i j, Rq Z H (f i j) (f' i j)) : OpD b (RE b) (rI0 f) (gI0 f') := by
  intro Z H x y dx dy Q Qd gd rx ry h k
  match dx, dy, h, rx, ry with
  | .py (.int i), .py (.int j), h, rx, ry =>
    rw [rx.int, ry.int]
    exact ⟨i, j, rfl, rfl, k _ H (.py (f' i j)) Ex.refl gd.g (hf Z H i j) h⟩
abbrev gSub := gI0 fun i j => .int (i - j)
abbrev gFdiv := gI CDivN fun i j => .int (i.fdiv j)
abbrev gMod := gI (fun _ j => 0 < j) fun i j => .int (i % j)
abbrev gPow := gI CPow fun i j => .int (i ^ j.toNat)
abbrev gLt := gI0 fun i j => .bool (decide (i < j))
abbrev gLe := gI0 fun i j => .bool (decide (i ≤ j))
abbrev gGt := gI0 fun i j => .bool (decide (j < i))
theorem ve_sub (h1 : VX X b W e1 t1) (h2 : VX X b W e2 t2) : VE X b W (.BinOp e1 .Sub e2 pos) (vBin gSub t1 t2) := ve_op op_sub (rd_I0 fun _ _ _ _ => .int _) h1 h2
theorem ve_fdiv (h1 : VX X b W e1 t1) (h2 : VX X b W e2 t2) : VE X b W (.BinOp e1 .FloorDiv e2 pos) (vBin gFdiv t1 t2) := ve_op op_fdivN (rd_I fun _ _ _ _ => .int _) h1 h2
theorem ve_mod (h1 : VX X b W e1 t1) (h2 : VX X b W e2 t2) : VE X b W (.BinOp e1 .Mod e2 pos) (vBin gMod t1 t2) := ve_op op_mod (rd_I fun _ _ _ _ => .int _) h1 h2
theorem ve_pow (h1 : VX X b W e1 t1) (h2 : VX X b W e2 t2) : VE X b W (.BinOp e1 .Pow e2 pos) (vBin gPow t1 t2) := ve_op op_pow (rd_I fun _ _ _ _ => .int _) h1 h2
theorem ve_lt (h1 : VX X b W e1 t1) (h2 : VX X b W e2 t2) : VE X b W (.Compare e1 [.Lt] [e2] pos) (vBin gLt t1 t2) := ve_cmp op_lt (rd_I0 fun _ _ _ _ => .bl _) h1 h2 (nobehind _ (by decide) (by decide))
theorem ve_le (h1 : VX X b W e1 t1) (h2 : VX X b W e2 t2) : VE X b W (.Compare e1 [.LtE] [e2] pos) (vBin gLe t1 t2) := ve_cmp op_le (rd_I0 fun _ _ _ _ => .bl _) h1 h2 (nobehind _ (by decide) (by decide))
theorem ve_gt (h1 : VX X b W e1 t1) (h2 : VX X b W e2 t2) : VE X b W (.Compare e1 [.Gt] [e2] pos) (vBin gGt t1 t2) := ve_cmp op_gt (rd_I0 fun _ _ _ _ => .bl _) h1 h2 (nobehind _ (by decide) (by decide))
theorem vt_lt (h1 : VX X b W e1 t1) (h2 : VX X b W e2 t2) : VTe X b W (.Compare e1 [.Lt] [e2] pos) (vTst (vBin gLt t1 t2)) := vt_cmp op_lt (rd_I0 fun _ _ _ _ => .bl _) h1 h2 (nobehind _ (by decide) (by decide))
theorem vt_gt (h1 : VX X b W e1 t1) (h2 : VX X b W e2 t2) : VTe X b W (.Compare e1 [.Gt] [e2] pos) (vTst (vBin gGt t1 t2)) := vt_cmp op_gt (rd_I0 fun _ _ _ _ => .bl _) h1 h2 (nobehind _ (by decide) (by decide))
end
end VL
set_option Elab.async false
set_option linter.all false
set_option maxRecDepth 100000
set_option maxHeartbeats 4000000
namespace VL
open PySem PySem.Spec PyProof.Rows L2
abbrev nz : Addr → Prop := fun _ => False
section
variable {X : Cx} {pins : List (Addr × Obj)} {σ : L2.St} {H : Hp} {s : Shared} {Z : Addr → Prop}
theorem keys_read {h : Heap} {P : Program} {w : World} : ∀ {es : List DictEntry} {kvs : List (Key × V)} {vs : List (Key × Value)}, KV kvs vs → Pairs (mixKind P w) es vs →
    ReadsAll h (es.map (·.key)) (kvs.map fun p => kD p.1) [] ∧ Vals (kvs.map (·.2)) (es.map (·.val))
  | _, _, _, .nil, .nil => ⟨.nil, .nil⟩
  | _, _, _, .cons (a := p) (b := q) r t, .cons (e := e) hk hv hp => by
    obtain ⟨i1, i2⟩ := keys_read (h := h) t hp
    obtain ⟨p1, p2⟩ := p
    obtain ⟨q1, q2⟩ := q
    obtain ⟨e1, e2⟩ := r
    have e1' : p1 = q1 := e1
    subst e1'
    refine ⟨?_, .cons (show L2.RelV p2 e.val by rw [hv]; exact e2) i2⟩
    have hk' : keyIs p1 e.key = true := hk
    rcases keyIs_shape hk' with ⟨i, u, a1, a2⟩ | ⟨x, u, a1, a2⟩
    · subst a1
      rw [List.map_cons, List.map_cons, a2]
      exact ReadsAll.cons (as := []) (Reads.int i u) i1
    · subst a1
      rw [List.map_cons, List.map_cons, a2]
      exact ReadsAll.cons (as := []) (Reads.str x u) i1
mutual
theorem Rq.reads (I : Inv X pins σ H s) : ∀ {v : V} {d : PyData}, Rq Z H v d → ∀ u, RelV v u → ∃ as, Reads s.heap u d as ∧ ∀ a ∈ as, H a ≠ none
  | _, _, .non, _, r => by cases r; exact ⟨_, Reads.none, fun _ h => nomatch h⟩
  | _, _, .bl k, _, r => by cases r; exact ⟨_, Reads.bool k, fun _ h => nomatch h⟩
  | _, _, .int i, _, r => by obtain ⟨t, rfl⟩ := r; exact ⟨_, Reads.int i t, fun _ h => nomatch h⟩
  | _, _, .str x, _, r => by obtain ⟨t, rfl⟩ := r; exact ⟨_, Reads.str x t, fun _ h => nomatch h⟩
  | _, _, .lst (a := a) e n q, _, r => by
    cases r
    obtain ⟨its, rv, ⟨o, m, ho, hc, _, hd⟩, _⟩ := I.list (SqL.of e)
    obtain ⟨as, h1, h2⟩ := Rqs.reads I q _ rv
    refine ⟨_, Reads.list ho hc hd h1, fun b hb => ?_⟩
    rcases List.mem_cons.mp hb with rfl | hb
    · rw [e]; simp
    · exact h2 b hb
  | _, _, .tup (a := a) e _ n q, _, r => by
    cases r
    obtain ⟨its, rv, ⟨o, ho, hc, m, hd⟩, _⟩ := I.tuple (SqT.th e)
    obtain ⟨as, h1, h2⟩ := Rqs.reads I q _ rv
    exact ⟨_, Reads.tuple ho hc hd h1, h2⟩
  | _, _, .dct (a := a) (kvs := kvs) (ds := ds) e n q, _, r => by
    cases r
    obtain ⟨_, _, vs, kv, o, es, ep, ho, he, hd, _, hp, _⟩ := dk_of I.hok e
    obtain ⟨k1, k2⟩ := keys_read (h := s.heap) kv hp
    obtain ⟨bs, h1, h2, h3⟩ := Rqk.reads I q _ k2
    rw [h3] at k1
    refine ⟨_, Reads.dict ho he.1 hd k1 h1, fun b hb => ?_⟩
    rcases List.mem_append.mp hb with hb | hb
    · rw [List.mem_singleton.mp hb, e]; simp
    · exact h2 b hb
theorem Rqs.reads (I : Inv X pins σ H s) : ∀ {v : List V} {d : List PyData}, Rqs Z H v d → ∀ u, Vals v u → ∃ as, ReadsAll s.heap u d as ∧ ∀ a ∈ as, H a ≠ none
  | _, _, .nil, _, r => by cases r; exact ⟨_, ReadsAll.nil, fun _ h => nomatch h⟩
  | _, _, .cons q t, _, r => by
    cases r with
    | cons r rr =>
      obtain ⟨as, h1, h2⟩ := Rq.reads I q _ r
      obtain ⟨bs, h3, h4⟩ := Rqs.reads I t _ rr
      exact ⟨_, ReadsAll.cons h1 h3, fun a ha => (List.mem_append.mp ha).elim (h2 a) (h4 a)⟩
theorem Rqk.reads (I : Inv X pins σ H s) : ∀ {v : List (Key × V)} {d : List (PyData × PyData)}, Rqk Z H v d → ∀ u, Vals (v.map (·.2)) u → ∃ as, ReadsAll s.heap u (d.map (·.2)) as ∧ (∀ a ∈ as, H a ≠ none) ∧ v.map (fun p => kD p.1) = d.map (·.1)
  | _, _, .nil, _, r => by cases r; exact ⟨_, ReadsAll.nil, fun _ h => (nomatch h), rfl⟩
  | _, _, .cons q t, _, r => by
    cases r with
    | cons r rr =>
      obtain ⟨as, h1, h2⟩ := Rq.reads I q _ r
      obtain ⟨bs, h3, h4, h5⟩ := Rqk.reads I t _ rr
      exact ⟨_, ReadsAll.cons h1 h3, fun a ha => (List.mem_append.mp ha).elim (h2 a) (h4 a), by rw [List.map_cons, List.map_cons, h5]⟩
end
end
/-- a borrowed plain value, as data -/
theorem Rb.q {b : Bg} {Z : Addr → Prop} {H : Hp} {v : V} {p : PyData} (r : Rb b Z H v (.py p)) : Rq nz H v p := by
  rcases r with r | ⟨a, e, _, _, q⟩
  · exact Rq.mono (fun _ z => z.elim) (fun _ _ e _ => e) r
  · subst e
    exact Ow.rp (b := b) (d := .py p) (Z' := nz) (fun _ z => z.elim) (fun z => z) q
/-! ### ==, in -/
section
variable {X : Cx}
def rEqP : R2 := fun x y H Q => ∃ p q, Rq nz H x p ∧ Rq nz H y q ∧ p.plain = true ∧ q.plain = true ∧ (p.depth ≤ 60 ∨ q.depth ≤ 60) ∧ Q (.bl (p.eqv q)) H
def rNeP : R2 := fun x y H Q => ∃ p q, Rq nz H x p ∧ Rq nz H y q ∧ p.plain = true ∧ q.plain = true ∧ (p.depth ≤ 60 ∨ q.depth ≤ 60) ∧ Q (.bl (!p.eqv q)) H
theorem op_eqP (hu : X.A.units + 64 < cLine) : OpR X (compareOp .Eq) rEqP := by
  intro pins s σ H x y v u Q I rx ry ⟨p, q, hp, hq, p1, q1, hd, h⟩
  obtain ⟨as, r1, _⟩ := hp.reads I _ rx
  obtain ⟨bs, r2, _⟩ := hq.reads I _ ry
  exact SeqAt.eq_plain r1 r2 p1 q1 (by omega) ⟨.bl _, H, I, rfl, h⟩
theorem op_neP (hu : X.A.units + 64 < cLine) : OpR X (compareOp .NotEq) rNeP := by
  intro pins s σ H x y v u Q I rx ry ⟨p, q, hp, hq, p1, q1, hd, h⟩
  obtain ⟨as, r1, _⟩ := hp.reads I _ rx
  obtain ⟨bs, r2, _⟩ := hq.reads I _ ry
  exact SeqAt.ne_plain r1 r2 p1 q1 (by omega) ⟨.bl _, H, I, rfl, h⟩
def rInP (neg : Bool) : R2 := fun x y H Q => ∃ p qs, Rq nz H x p ∧ (Rq nz H y (.list qs) ∨ Rq nz H y (.tuple qs)) ∧ p.plain = true ∧ PyData.plainAll qs = true ∧ (p.depth ≤ 60 ∨ PyData.depthAll qs ≤ 60) ∧ Q (.bl (neg ^^ qs.any fun y => PyData.eqv y p)) H
theorem op_inP (hu : X.A.units + 64 < cLine) : OpR X (compareOp .In) (rInP false) := by
  intro pins s σ H x y v u Q I rx ry ⟨p, q, hp, hq, p1, q1, hd, h⟩
  obtain ⟨as, r1, _⟩ := hp.reads I _ rx
  rw [Bool.false_xor] at h
  rcases hq with hq | hq
  · obtain ⟨bs, r2, _⟩ := hq.reads I _ ry
    exact SeqAt.in_list_data r2 r1 q1 p1 (by omega) ⟨.bl _, H, I, rfl, h⟩
  · obtain ⟨bs, r2, _⟩ := hq.reads I _ ry
    exact SeqAt.in_tuple_data r2 r1 q1 p1 (by omega) ⟨.bl _, H, I, rfl, h⟩
end
/-- p == q, whatever plain data they are -/
@[simp] def gEq : D → D → (D → Prop) → Prop
  | .py (.tuple xs), .py (.tuple []), Q => Q (.py (.bool xs.isEmpty))
  | .py (.list xs), .py (.list []), Q => Q (.py (.bool xs.isEmpty))
  | .py p, .py q, Q => p.plain = true ∧ q.plain = true ∧ (p.depth ≤ 60 ∨ q.depth ≤ 60) ∧ Q (.py (.bool (p.eqv q)))
  | _, _, _ => False
@[simp] def gNe : D → D → (D → Prop) → Prop
  | .py (.tuple xs), .py (.tuple []), Q => Q (.py (.bool (!xs.isEmpty)))
  | .py (.list xs), .py (.list []), Q => Q (.py (.bool (!xs.isEmpty)))
  | .py p, .py q, Q => p.plain = true ∧ q.plain = true ∧ (p.depth ≤ 60 ∨ q.depth ≤ 60) ∧ Q (.py (.bool (!p.eqv q)))
  | _, _, _ => False
/-- x in c, c a list, a tuple, a text -/
@[simp] def gIn (neg : Bool) : D → D → (D → Prop) → Prop
  | .py (.str x), .py (.str y), Q => Q (.py (.bool (neg ^^ Txt.contains y x)))
  | .py p, .py (.list q), Q => p.plain = true ∧ PyData.plainAll q = true ∧ (p.depth ≤ 60 ∨ PyData.depthAll q ≤ 60) ∧ Q (.py (.bool (neg ^^ q.any fun y => PyData.eqv y p)))
  | .py p, .py (.tuple q), Q => p.plain = true ∧ PyData.plainAll q = true ∧ (p.depth ≤ 60 ∨ PyData.depthAll q ≤ 60) ∧ Q (.py (.bool (neg ^^ q.any fun y => PyData.eqv y p)))
  | _, _, _ => False
section
variable {X : Cx} {b : Bg} {W : WX} {e e1 e2 e3 : Expr} {es : List Expr} {t t1 t2 t3 : VT} {pos : Pos} {r : R2} {g : D → D → (D → Prop) → Prop}
/-- beside an empty one: no item is looked at -/
def rZ (K : PySem.W.Frag) (f : Bool → Bool) : R2 := fun x y H Q => ∃ a c xs, x = .ref a ∧ y = .ref c ∧ ((SqL K H a xs ∧ SqL K H c []) ∨ (SqT K H a xs ∧ SqT K H c [])) ∧ Q (.bl (f xs.isEmpty)) H
theorem op_eqZ (hu : X.A.units + 64 < cLine) : OpR X (compareOp .Eq) (rZ X.K id) := by
  intro pins s σ H x y v u Q I rx ry ⟨a, c, xs, ex, ey, hh, q⟩
  subst ex ey
  obtain rfl : v = .ref a := rx
  obtain rfl : u = .ref c := ry
  rcases hh with ⟨h1, h2⟩ | ⟨h1, h2⟩
  · obtain ⟨its, r, p, _⟩ := I.list h1
    obtain ⟨its2, r2, p2, _⟩ := I.list h2
    cases r2
    cases r with
    | nil => exact SeqAt.eq_listAt (e := fun _ => true) p.isList p2.isList rfl (by omega) (fun j h => absurd h (Nat.not_lt_zero j)) ⟨.bl _, H, I, rfl, q⟩
    | cons r rs => exact SeqAt.eq_list_lengthsAt p.isList p2.isList rfl (by omega) ⟨.bl _, H, I, rfl, q⟩
  · obtain ⟨its, r, p, _⟩ := I.tuple h1
    obtain ⟨its2, r2, p2, _⟩ := I.tuple h2
    cases r2
    refine SeqAt.eq_tupleAt (e := fun _ => true) p p2 (by omega) (fun j h1 h2 => absurd h2 (Nat.not_lt_zero j)) ⟨.bl _, H, I, ?_, q⟩
    cases r <;> simp [L2.RelV]
theorem op_neZ (hu : X.A.units + 64 < cLine) : OpR X (compareOp .NotEq) (rZ X.K not) := by
  intro pins s σ H x y v u Q I rx ry ⟨a, c, xs, ex, ey, hh, q⟩
  subst ex ey
  obtain rfl : v = .ref a := rx
  obtain rfl : u = .ref c := ry
  rcases hh with ⟨h1, h2⟩ | ⟨h1, h2⟩
  · obtain ⟨its, r, p, _⟩ := I.list h1
    obtain ⟨its2, r2, p2, _⟩ := I.list h2
    cases r2
    cases r with
    | nil => exact SeqAt.RcNeAt.lists (e := fun _ => true) p.isList p2.isList rfl (by omega) (fun j h => absurd h (Nat.not_lt_zero j)) _ _ _ _ ⟨.bl _, H, I, rfl, q⟩
    | cons r rs => exact SeqAt.RcNeAt.lists_lengths p.isList p2.isList rfl (by omega) _ _ _ _ ⟨.bl _, H, I, rfl, q⟩
  · obtain ⟨its, r, p, _⟩ := I.tuple h1
    obtain ⟨its2, r2, p2, _⟩ := I.tuple h2
    cases r2
    refine SeqAt.RcNeAt.tuples (e := fun _ => true) p p2 (by omega) (fun j h1 h2 => absurd h2 (Nat.not_lt_zero j)) _ _ _ _ ⟨.bl _, H, I, ?_, q⟩
    cases r <;> simp [L2.RelV]
theorem rz_of {f : Bool → Bool} {K : PySem.W.Frag} {Z : Addr → Prop} {H : Hp} {x y : V} {Q : VK} {Qd : D → Prop} {xs : List PyData} (gd : Gd b Z H) (h : Qd (.py (.bool (f xs.isEmpty)))) (k : ∀ v H' d, Ex b H H' → b.G H' → RE b Z H H' v d → Qd d → Q v H') :
    (Rb b Z H x (.py (.list xs)) → Rb b Z H y (.py (.list [])) → rZ K f x y H Q) ∧ (Rb b Z H x (.py (.tuple xs)) → Rb b Z H y (.py (.tuple [])) → rZ K f x y H Q) := by
  have ee : ∀ {us : List V}, Rqs Z H us xs → xs.isEmpty = us.isEmpty := fun q => by cases q <;> rfl
  refine ⟨fun rx ry => ?_, fun rx ry => ?_⟩
  · obtain ⟨a, us, rfl, ha, qa⟩ := rx.list
    obtain ⟨c, ws, rfl, hc, qc⟩ := ry.list
    cases qc
    exact ⟨a, c, us, rfl, rfl, .inl ⟨SqL.of ha, SqL.of hc⟩, k _ H (.py (.bool _)) Ex.refl gd.g (by rw [← ee qa]; exact .bl _) h⟩
  · obtain ⟨a, oa, us, rfl, ha, _, _, qa⟩ := rx.tuple
    obtain ⟨c, oc, ws, rfl, hc, _, _, qc⟩ := ry.tuple
    cases qc
    exact ⟨a, c, us, rfl, rfl, .inr ⟨SqT.th ha, SqT.th hc⟩, k _ H (.py (.bool _)) Ex.refl gd.g (by rw [← ee qa]; exact .bl _) h⟩
theorem rd_eq : OpD b (RE b) (fun x y H Q => rEqP x y H Q ∨ rZ X.K id x y H Q) gEq := by
  intro Z H x y dx dy Q Qd gd rx ry h k
  unfold gEq at h
  split at h
  · exact .inr ((rz_of (f := id) gd h k).2 rx ry)
  · exact .inr ((rz_of (f := id) gd h k).1 rx ry)
  · obtain ⟨h1, h2, h3, h⟩ := h
    exact .inl ⟨_, _, rx.q, ry.q, h1, h2, h3, k _ H (.py (.bool _)) Ex.refl gd.g (.bl _) h⟩
  · exact h.elim
theorem rd_ne : OpD b (RE b) (fun x y H Q => rNeP x y H Q ∨ rZ X.K not x y H Q) gNe := by
  intro Z H x y dx dy Q Qd gd rx ry h k
  unfold gNe at h
  split at h
  · exact .inr ((rz_of (f := not) gd h k).2 rx ry)
  · exact .inr ((rz_of (f := not) gd h k).1 rx ry)
  · obtain ⟨h1, h2, h3, h⟩ := h
    exact .inl ⟨_, _, rx.q, ry.q, h1, h2, h3, k _ H (.py (.bool _)) Ex.refl gd.g (.bl _) h⟩
  · exact h.elim
theorem ve_eq (hu : X.A.units + 64 < cLine) (h1 : VX X b W e1 t1) (h2 : VX X b W e2 t2) : VE X b W (.Compare e1 [.Eq] [e2] pos) (vBin gEq t1 t2) := ve_cmp (OpR.or (op_eqP hu) (op_eqZ hu)) rd_eq h1 h2 (nobehind _ (by decide) (by decide))
theorem ve_ne (hu : X.A.units + 64 < cLine) (h1 : VX X b W e1 t1) (h2 : VX X b W e2 t2) : VE X b W (.Compare e1 [.NotEq] [e2] pos) (vBin gNe t1 t2) := ve_cmp (OpR.or (op_neP hu) (op_neZ hu)) rd_ne h1 h2 (nobehind _ (by decide) (by decide))
theorem vt_eq (hu : X.A.units + 64 < cLine) (h1 : VX X b W e1 t1) (h2 : VX X b W e2 t2) : VTe X b W (.Compare e1 [.Eq] [e2] pos) (vTst (vBin gEq t1 t2)) := vt_cmp (OpR.or (op_eqP hu) (op_eqZ hu)) rd_eq h1 h2 (nobehind _ (by decide) (by decide))
theorem vt_ne (hu : X.A.units + 64 < cLine) (h1 : VX X b W e1 t1) (h2 : VX X b W e2 t2) : VTe X b W (.Compare e1 [.NotEq] [e2] pos) (vTst (vBin gNe t1 t2)) := vt_cmp (OpR.or (op_neP hu) (op_neZ hu)) rd_ne h1 h2 (nobehind _ (by decide) (by decide))
def rInS2 : R2 := fun x y H Q => ∃ i j, x = .str i ∧ y = .str j ∧ Q (.bl (Txt.contains j i)) H
theorem op_inS2 : OpR X (compareOp .In) rInS2 := fun pins s σ H x y v u Q I rx ry ⟨i, j, e1, e2, q⟩ => op_in_str pins s σ H x y v u Q I rx ry ⟨i, j, e1, e2, q⟩
theorem rd_in {neg : Bool} (r0 : R2) (h0 : ∀ (H : Hp) (i j : Str) (Q : VK), Q (.bl (neg ^^ Txt.contains j i)) H → r0 (.str i) (.str j) H Q) : OpD b (RE b) (fun x y H Q => r0 x y H Q ∨ rInP neg x y H Q) (gIn neg) := by
  intro Z H x y dx dy Q Qd gd rx ry h k
  have lst : ∀ {p : PyData} {q : List PyData}, Rb b Z H x (.py p) → Rb b Z H y (.py (.list q)) → (p.plain = true ∧ PyData.plainAll q = true ∧ (p.depth ≤ 60 ∨ PyData.depthAll q ≤ 60) ∧ Qd (.py (.bool (neg ^^ q.any fun y => PyData.eqv y p)))) → rInP neg x y H Q :=
    fun {p q} rx ry ⟨h1, h2, h3, h⟩ => ⟨p, q, rx.q, .inl ry.q, h1, h2, h3, k _ H (.py (.bool _)) Ex.refl gd.g (.bl _) h⟩
  have tup : ∀ {p : PyData} {q : List PyData}, Rb b Z H x (.py p) → Rb b Z H y (.py (.tuple q)) → (p.plain = true ∧ PyData.plainAll q = true ∧ (p.depth ≤ 60 ∨ PyData.depthAll q ≤ 60) ∧ Qd (.py (.bool (neg ^^ q.any fun y => PyData.eqv y p)))) → rInP neg x y H Q :=
    fun {p q} rx ry ⟨h1, h2, h3, h⟩ => ⟨p, q, rx.q, .inr ry.q, h1, h2, h3, k _ H (.py (.bool _)) Ex.refl gd.g (.bl _) h⟩
  match dx, dy, h, rx, ry with
  | .py (.str i), .py (.str j), h, rx, ry =>
    rw [rx.str, ry.str]
    exact .inl (h0 H i j Q (k _ H (.py (.bool _)) Ex.refl gd.g (.bl _) h))
  | .py .none, .py (.list q), h, rx, ry => exact .inr (lst rx ry h)
  | .py (.bool _), .py (.list q), h, rx, ry => exact .inr (lst rx ry h)
  | .py (.int _), .py (.list q), h, rx, ry => exact .inr (lst rx ry h)
  | .py (.str _), .py (.list q), h, rx, ry => exact .inr (lst rx ry h)
  | .py (.list _), .py (.list q), h, rx, ry => exact .inr (lst rx ry h)
  | .py (.tuple _), .py (.list q), h, rx, ry => exact .inr (lst rx ry h)
  | .py .none, .py (.tuple q), h, rx, ry => exact .inr (tup rx ry h)
  | .py (.bool _), .py (.tuple q), h, rx, ry => exact .inr (tup rx ry h)
  | .py (.int _), .py (.tuple q), h, rx, ry => exact .inr (tup rx ry h)
  | .py (.str _), .py (.tuple q), h, rx, ry => exact .inr (tup rx ry h)
  | .py (.list _), .py (.tuple q), h, rx, ry => exact .inr (tup rx ry h)
  | .py (.tuple _), .py (.tuple q), h, rx, ry => exact .inr (tup rx ry h)
  | .py (.dict _), .py (.list q), h, rx, ry => exact .inr (lst rx ry h)
  | .py (.dict _), .py (.tuple q), h, rx, ry => exact .inr (tup rx ry h)
theorem ve_in (hu : X.A.units + 64 < cLine) (h1 : VX X b W e1 t1) (h2 : VX X b W e2 t2) (hm : behindInMarks .In e2 = false := by rfl) : VE X b W (.Compare e1 [.In] [e2] pos) (vBin (gIn false) t1 t2) :=
  ve_cmp (OpR.or op_inS2 (op_inP hu)) (rd_in rInS2 fun H i j Q q => ⟨i, j, rfl, rfl, by rw [Bool.false_xor] at q; exact q⟩) h1 h2 hm
/-! ### is None -/
@[simp] def isNn : PyData → Bool
  | .none => true
  | _ => false
@[simp] def gIsN (neg : Bool) : D → D → (D → Prop) → Prop
  | .py p, .py .none, Q => Q (.py (.bool (neg ^^ isNn p)))
  | .raw v, .py .none, Q => Q (.py (.bool (neg ^^ decide (v = V.non))))
  | .obj _ _ _, .py .none, Q => Q (.py (.bool neg))
  | _, _, _ => False
theorem Rq.isN {Z : Addr → Prop} {H : Hp} {v : V} {p : PyData} (r : Rq Z H v p) : decide (v = V.non) = isNn p := by
  cases r <;> rfl
theorem rd_isN {neg : Bool} {f : Bool → Bool} (hf : ∀ k, f k = (neg ^^ k)) : OpD b (RE b) (fun x y H Q => y = .non ∧ Q (.bl (f (decide (x = .non)))) H) (gIsN neg) := by
  intro Z H x y dx dy Q Qd gd rx ry h k
  match dx, dy, h, rx, ry with
  | .py p, .py .none, h, rx, ry =>
    refine ⟨ry.none, ?_⟩
    rw [rx.q.isN, hf]
    exact k _ H (.py (.bool _)) Ex.refl gd.g (.bl _) h
  | .raw v, .py .none, h, rx, ry =>
    refine ⟨ry.none, ?_⟩
    have e : x = v := by
      rcases rx with r | ⟨a, e, _, _, q⟩
      · exact r
      · exact q.elim
    rw [hf, e]
    exact k _ H (.py (.bool _)) Ex.refl gd.g (.bl _) h
  | .obj _ _ _, .py .none, h, rx, ry =>
    refine ⟨ry.none, ?_⟩
    obtain ⟨dx, xs, e, _⟩ := rx.obj
    subst e
    rw [hf, decide_eq_false (by intro h; cases h), Bool.xor_false]
    exact k _ H (.py (.bool _)) Ex.refl gd.g (.bl _) h
theorem ve_notN (h1 : VX X b W e1 t1) (h2 : VX X b W e2 t2) : VE X b W (.Compare e1 [.IsNot] [e2] pos) (vBin (gIsN true) t1 t2) := ve_cmp op_notN (rd_isN (f := not) fun k => by rw [Bool.true_xor]) h1 h2 (nobehind _ (by decide) (by decide))
theorem vt_isN (h1 : VX X b W e1 t1) (h2 : VX X b W e2 t2) : VTe X b W (.Compare e1 [.Is] [e2] pos) (vTst (vBin (gIsN false) t1 t2)) := vt_cmp op_isN (rd_isN (f := id) fun k => by rw [Bool.false_xor]; rfl) h1 h2 (nobehind _ (by decide) (by decide))
theorem vt_notN (h1 : VX X b W e1 t1) (h2 : VX X b W e2 t2) : VTe X b W (.Compare e1 [.IsNot] [e2] pos) (vTst (vBin (gIsN true) t1 t2)) := vt_cmp op_notN (rd_isN (f := not) fun k => by rw [Bool.true_xor]) h1 h2 (nobehind _ (by decide) (by decide))
/-! ### chains, and, or, not, if -/
@[simp] def vChain (g g' : D → D → (D → Prop) → Prop) (ta tb tc : VT) : VT := fun ρ Q E => ta ρ (fun x => tb ρ (fun y => g x y fun z => ∃ k, z = .py (.bool k) ∧ if k = true then tc ρ (fun w => g' y w Q) E else Q (.py (.bool false))) E) E
theorem chain_core {r' : R2} {g' : D → D → (D → Prop) → Prop} (hd : OpD b (RE b) r g) (hd' : OpD b (RE b) r' g') :
    ∀ σ H Q, LE b W (RE b) (vChain g g' t1 t2 t3) σ H Q → tChain r r' (LE b W (fun Z _ H v d => Rb b Z H v d) t1) (LE b W (fun Z _ H v d => Rb b Z H v d) t2) (LE b W (fun Z _ H v d => Rb b Z H v d) t3) σ H Q :=
  fun σ H Q ⟨Zo, Z, ρ, Qd, Ed, v, q, l, m⟩ => ⟨Zo, Z, ρ, _, Ed, v, q, fun x H1 d x1 g1 r1 q1 =>
    ⟨Zo, Z, ρ, _, Ed, v.ex x1 g1, q1, fun y H2 d2 x2 g2 r2 q2 => by
      have v2 := (v.ex x1 g1).ex x2 g2
      refine hd Z H2 x y d d2 _ _ v2.gd (r1.ex ((v.ex x1 g1).keep x2) x2) r2 q2 fun u H3 d3 x3 g3 r3 ⟨k, e3, q3⟩ => ?_
      subst e3
      refine ⟨k, Rb.bool (b := b) (Z := Z) (H := H3) (.inl r3), ?_⟩
      cases k with
      | false => exact l _ H3 (.py (.bool false)) ((x1.trans x2).trans x3) g3 (Rq.bl false) q3
      | true => exact ⟨Zo, Z, ρ, _, Ed, v2.ex x3 g3, q3, fun w H4 d4 x4 g4 r4 q4 => hd' Z H4 y w d2 d4 Q Qd ((v2.ex x3 g3).ex x4 g4).gd ((r2.ex (v2.keep x3) x3).ex ((v2.ex x3 g3).keep x4) x4) r4 q4
            fun u5 H5 d5 x5 g5 r5 q5 => l u5 H5 d5 ((((x1.trans x2).trans x3).trans x4).trans x5) g5 r5 q5,
          fun c z H4 er x4 g4 r4 q4 => m c z H4 er (((x1.trans x2).trans x3).trans x4) g4 r4 q4⟩,
      fun c z H2 er x2 g2 r2 q2 => m c z H2 er (x1.trans x2) g2 r2 q2⟩, m⟩
theorem ve_chain {op op' : CmpOp} {r' : R2} {g' : D → D → (D → Prop) → Prop} (ho : OpR X (compareOp op) r) (hd : OpD b (RE b) r g) (ho' : OpR X (compareOp op') r') (hd' : OpD b (RE b) r' g')
    (h1 : VX X b W e1 t1) (h2 : VX X b W e2 t2) (h3 : VX X b W e3 t3) (hm : lastMarks [op, op'] [e2, e3] = false) : VE X b W (.Compare e1 [op, op'] [e2, e3] pos) (vChain g g' t1 t2 t3) :=
  pe_mono (pe_chain ho ho' h1 h2 h3 hm) (chain_core hd hd')
theorem ve_leLt (h1 : VX X b W e1 t1) (h2 : VX X b W e2 t2) (h3 : VX X b W e3 t3) : VE X b W (.Compare e1 [.LtE, .Lt] [e2, e3] pos) (vChain gLe gLt t1 t2 t3) :=
  ve_chain op_le (rd_I0 fun _ _ _ _ => .bl _) op_lt (rd_I0 fun _ _ _ _ => .bl _) h1 h2 h3 (by show behindInMarks _ _ = false; exact nobehind _ (by decide) (by decide))
@[simp] def vAnd (ta tb : VT) : VT := fun ρ Q E => ta ρ (fun x => ∃ k, x = .py (.bool k) ∧ if k = true then tb ρ Q E else Q (.py (.bool false))) E
@[simp] def vOr (ta tb : VT) : VT := fun ρ Q E => ta ρ (fun x => ∃ k, x = .py (.bool k) ∧ if k = true then Q (.py (.bool true)) else tb ρ Q E) E
@[simp] def vNot (ta : VT) : VT := fun ρ Q E => ta ρ (fun x => ∃ k, x = .py (.bool k) ∧ Q (.py (.bool (!k)))) E
theorem ve_one {op} (h : VE X b W e t) : VE X b W (.BoolOp op [e] pos) t := pe_one h
theorem ve_and (h1 : VX X b W e1 t1) (h2 : VE X b W (.BoolOp .And (e2 :: es) pos) t2) : VE X b W (.BoolOp .And (e1 :: e2 :: es) pos) (vAnd t1 t2) :=
  pe_mono (pe_and h1 h2) fun σ H Q ⟨Zo, Z, ρ, Qd, Ed, v, q, l, m⟩ => ⟨Zo, Z, ρ, _, Ed, v, q, fun x H1 d x1 g1 r1 ⟨k, e, q1⟩ => by
    subst e
    refine ⟨k, r1.bool, ?_⟩
    cases k with
    | false => exact l _ H1 (.py (.bool false)) x1 g1 (Rq.bl false) q1
    | true => exact ⟨Zo, Z, ρ, _, Ed, v.ex x1 g1, q1, fun y H2 d2 x2 g2 r2 q2 => l y H2 d2 (x1.trans x2) g2 r2 q2, fun c z H2 er x2 g2 r2 q2 => m c z H2 er (x1.trans x2) g2 r2 q2⟩, m⟩
theorem ve_not (h1 : VX X b W e1 t1) : VE X b W (.UnaryOp .Not e1 pos) (vNot t1) :=
  pe_mono (pe_not h1) fun σ H Q ⟨Zo, Z, ρ, Qd, Ed, v, q, l, m⟩ => ⟨Zo, Z, ρ, _, Ed, v, q, fun x H1 d x1 g1 r1 ⟨k, e, q1⟩ => by
    subst e
    exact ⟨k, r1.bool, l _ H1 (.py (.bool _)) x1 g1 (Rq.bl _) q1⟩, m⟩
@[simp] def vIf (c : VB) (ta tb : VT) : VT := fun ρ Q E => c ρ (fun k => if k = true then ta ρ Q E else tb ρ Q E) E
theorem ve_if {c : Expr} {tc : VB} (hc : VTe X b W c tc) (h1 : VE X b W e1 t1) (h2 : VE X b W e2 t2) : VE X b W (.IfExp c e1 e2 pos) (vIf tc t1 t2) :=
  pe_mono (pe_ifExp hc h1 h2) fun σ H Q ⟨Zo, Z, ρ, Qd, Ed, v, q, l, m⟩ => ⟨Zo, Z, ρ, _, Ed, v, q, fun k H1 x1 g1 q1 => by
    cases k with
    | true => exact ⟨Zo, Z, ρ, _, Ed, v.ex x1 g1, q1, fun y H2 d2 x2 g2 r2 q2 => l y H2 d2 (x1.trans x2) g2 r2 q2, fun c z H2 er x2 g2 r2 q2 => m c z H2 er (x1.trans x2) g2 r2 q2⟩
    | false => exact ⟨Zo, Z, ρ, _, Ed, v.ex x1 g1, q1, fun y H2 d2 x2 g2 r2 q2 => l y H2 d2 (x1.trans x2) g2 r2 q2, fun c z H2 er x2 g2 r2 q2 => m c z H2 er (x1.trans x2) g2 r2 q2⟩, m⟩
/-! ### tests -/
@[simp] def wAnd (t u : VB) : VB := fun ρ Q E => t ρ (fun c => if c = true then u ρ Q E else Q false) E
@[simp] def wOr (t u : VB) : VB := fun ρ Q E => t ρ (fun c => if c = true then Q true else u ρ Q E) E
@[simp] def wNot (t : VB) : VB := fun ρ Q E => t ρ (fun c => Q (!c)) E
/-- and, or: whatever their whole is -/
def VWe (X : Cx) (b : Bg) (W : WX) (e : Expr) (t : VB) : Prop := PW X e (LB b W t)
theorem pw_mono {e : Expr} {t t' : TT} (h : PW X e t) (m : ∀ σ H Q, t' σ H Q → t σ H Q) : PW X e t' := ⟨fun w pins s σ H Q I q => h.run w pins s σ H Q I (m σ H Q q)⟩
theorem VWe.pt {t : VB} (h : VWe X b W e t) : VTe X b W e t := PW.pt h
theorem lb_then {k : Bool} {u : VB} {Zo Z : Addr → Prop} {σ : L2.St} {H H1 : Hp} {ρ : VEnv} {Q : Bool → Hp → Prop} {Qd : Bool → Prop} {Ed : Er → Prop} (v : VOk b Zo Z σ H ρ) (l : ∀ k H', Ex b H H' → b.G H' → Qd k → Q k H') (m : ∀ c x H' er, Ex b H H' → b.G H' → ErRp b Z H' c x er → Ed er → W c x σ H')
    (x1 : Ex b H H1) (g1 : b.G H1) (q : u ρ Qd Ed) : LB b W u σ H1 Q :=
  ⟨Zo, Z, ρ, _, Ed, v.ex x1 g1, q, fun k H2 x2 g2 q2 => l k H2 (x1.trans x2) g2 q2, fun c z H2 er x2 g2 r2 q2 => m c z H2 er (x1.trans x2) g2 r2 q2⟩
theorem vw_and1 {t : VB} (h : VTe X b W e t) : VWe X b W (.BoolOp .And [e] pos) t := pw_and1 h
theorem vw_or1 {t : VB} (h : VTe X b W e t) : VWe X b W (.BoolOp .Or [e] pos) t := pw_or1 h
theorem vw_and {t u : VB} (h1 : VTe X b W e1 t) (h2 : VWe X b W (.BoolOp .And (e2 :: es) pos) u) : VWe X b W (.BoolOp .And (e1 :: e2 :: es) pos) (wAnd t u) :=
  pw_mono (pw_and h1 h2) fun σ H Q ⟨Zo, Z, ρ, Qd, Ed, v, q, l, m⟩ => ⟨Zo, Z, ρ, _, Ed, v, q, fun k H1 x1 g1 q1 => by
    cases k with
    | true => exact lb_then (k := true) v l m x1 g1 q1
    | false => exact l false H1 x1 g1 q1, m⟩
theorem vw_or {t u : VB} (h1 : VTe X b W e1 t) (h2 : VWe X b W (.BoolOp .Or (e2 :: es) pos) u) : VWe X b W (.BoolOp .Or (e1 :: e2 :: es) pos) (wOr t u) :=
  pw_mono (pw_or h1 h2) fun σ H Q ⟨Zo, Z, ρ, Qd, Ed, v, q, l, m⟩ => ⟨Zo, Z, ρ, _, Ed, v, q, fun k H1 x1 g1 q1 => by
    cases k with
    | false => exact lb_then (k := true) v l m x1 g1 q1
    | true => exact l true H1 x1 g1 q1, m⟩
theorem vt_not {t : VB} (h1 : VTe X b W e1 t) : VTe X b W (.UnaryOp .Not e1 pos) (wNot t) :=
  pt_mono (pt_not h1) fun σ H Q ⟨Zo, Z, ρ, Qd, Ed, v, q, l, m⟩ => ⟨Zo, Z, ρ, _, Ed, v, q, fun k H1 x1 g1 q1 => l _ H1 x1 g1 q1, m⟩
end
end VL
set_option Elab.async false
set_option linter.all false
set_option maxRecDepth 100000
set_option maxHeartbeats 4000000
namespace VL
open PySem PySem.Spec PyProof.Rows L2
/-- a text by its signs -/
abbrev mkS (l : List Nat) : Str := ⟨l.toArray⟩
abbrev sl (x : Str) : List Nat := x.cps.toList
/-! ### many borrowed values -/
inductive Rbs (b : Bg) (Z : Addr → Prop) (H : Hp) : List V → List D → Prop
  | nil : Rbs b Z H [] []
  | cons {v : V} {d : D} {vs : List V} {ds : List D} : Rb b Z H v d → Rbs b Z H vs ds → Rbs b Z H (v :: vs) (d :: ds)
def LAX (b : Bg) (W : WX) (t : VA) : TA := fun σ H Q => ∃ Zo Z ρ Qd Ed, VOk b Zo Z σ H ρ ∧ t ρ Qd Ed ∧
  (∀ v H' d, Ex b H H' → b.G H' → Rbs b Z H' v d → Qd d → Q v H') ∧ ∀ c x H' er, Ex b H H' → b.G H' → ErRp b Z H' c x er → Ed er → W c x σ H'
def VXs (X : Cx) (b : Bg) (W : WX) (es : List Expr) (t : VA) : Prop := PA X es (LAX b W t)
/-- a rule of a list of values -/
def CalD (b : Bg) (R : (Addr → Prop) → Hp → Hp → V → D → Prop) (r : List V → Hp → VK → Prop) (g : List D → (D → Prop) → Prop) : Prop :=
  ∀ (Z : Addr → Prop) (H : Hp) (x : List V) (dx : List D) (Q : VK) (Qd : D → Prop), Gd b Z H → Rbs b Z H x dx → g dx Qd → (∀ v H' d, Ex b H H' → b.G H' → R Z H H' v d → Qd d → Q v H') → r x H Q
@[simp] def vCal (g : List D → (D → Prop) → Prop) (ta : VA) : VT := fun ρ Q E => ta ρ (fun ds => g ds Q) E
@[simp] def vMet (g : D → List D → (D → Prop) → Prop) (to : VT) (ta : VA) : VT := fun ρ Q E => to ρ (fun d => ta ρ (fun ds => g d ds Q) E) E
section
variable {X : Cx} {b : Bg} {W : WX} {e e1 e2 e3 : Expr} {es : List Expr} {t t1 t2 t3 : VT} {u : VA} {pos p : Pos} {r : List V → Hp → VK → Prop} {g : List D → (D → Prop) → Prop} {x : Str} {id T : String}
theorem vxs_nil : VXs X b W [] vNil := pa_mono pa_nil fun σ H Q ⟨Zo, Z, ρ, Qd, Ed, v, q, l, _⟩ => l [] H [] Ex.refl v.g .nil q
theorem vxs_cons (h : VX X b W e t) (k : VXs X b W es u) (hs : starEach (e :: es) X.env = (false, eval e X.env) :: starEach es X.env := by rfl) : VXs X b W (e :: es) (vCons t u) :=
  pa_mono (pa_cons h k hs) fun σ H Q ⟨Zo, Z, ρ, Qd, Ed, v, q, l, m⟩ => ⟨Zo, Z, ρ, _, Ed, v, q, fun x H1 d x1 g1 r1 q1 =>
    ⟨Zo, Z, ρ, _, Ed, v.ex x1 g1, q1, fun xs H2 ds x2 g2 r2 q2 => l (x :: xs) H2 (d :: ds) (x1.trans x2) g2 (.cons (r1.ex ((v.ex x1 g1).keep x2) x2) r2) q2, fun c y H2 er x2 g2 r2 q2 => m c y H2 er (x1.trans x2) g2 r2 q2⟩, m⟩
theorem coreC {R : (Addr → Prop) → Hp → Hp → V → D → Prop} (hR : ∀ Z H H1 H2 v d, b.G H1 → Ex b H H1 → R Z H1 H2 v d → R Z H H2 v d) (hd : CalD b R r g) : ∀ σ H Q, LE b W R (vCal g u) σ H Q → tCB r (LAX b W u) σ H Q :=
  fun σ H Q ⟨Zo, Z, ρ, Qd, Ed, v, q, l, m⟩ => ⟨Zo, Z, ρ, _, Ed, v, q, fun xs H1 ds x1 g1 r1 q1 => hd Z H1 xs ds Q Qd (v.ex x1 g1).gd r1 q1 fun w H2 d x2 g2 r2 q2 => l w H2 d (x1.trans x2) g2 (hR _ _ _ _ _ _ g1 x1 r2) q2, m⟩
theorem ve_callB (hc : CallR X (.builtin id) r) (hd : CalD b (RE b) r g) (hg : Gl X x) (hm : X.mg x = none) (hv : bootBuiltins x = some (.builtin id)) (ha : VXs X b W (e :: es) u) (hn : x ≠ "__name__" := by decide) (hdb : (x == ("__debug__" : Str)) = false := by decide)
    (he : starEach (e :: es) X.env = (false, eval e X.env) :: starEach es X.env := by rfl) (hpl : (backTo pos (starEach es X.env)).any (·.1) = false := by rfl) : VE X b W (.Call (.Name x p) (e :: es) [] pos) (vCal g u) :=
  pe_mono (pe_callB hc hg hm hv ha hn hdb he hpl) (coreC hRE hd)
theorem vn_callB (hc : CallR X (.builtin id) r) (hd : CalD b (RN b) r g) (hg : Gl X x) (hm : X.mg x = none) (hv : bootBuiltins x = some (.builtin id)) (ha : VXs X b W (e :: es) u) (hn : x ≠ "__name__" := by decide) (hdb : (x == ("__debug__" : Str)) = false := by decide)
    (he : starEach (e :: es) X.env = (false, eval e X.env) :: starEach es X.env := by rfl) (hpl : (backTo pos (starEach es X.env)).any (·.1) = false := by rfl) : VN X b W (.Call (.Name x p) (e :: es) [] pos) (vCal g u) :=
  pe_mono (pe_callB hc hg hm hv ha hn hdb he hpl) (coreC hRN hd)
theorem ve_callTy (hc : CallR X (.type T) r) (hd : CalD b (RE b) r g) (hg : Gl X x) (hm : X.mg x = none) (hv : bootBuiltins x = some (.type T)) (ha : VXs X b W (e :: es) u) (hn : x ≠ "__name__" := by decide) (hdb : (x == ("__debug__" : Str)) = false := by decide)
    (he : starEach (e :: es) X.env = (false, eval e X.env) :: starEach es X.env := by rfl) (hpl : (backTo pos (starEach es X.env)).any (·.1) = false := by rfl) : VE X b W (.Call (.Name x p) (e :: es) [] pos) (vCal g u) :=
  pe_mono (pe_callTy hc hg hm hv ha hn hdb he hpl) (coreC hRE hd)
/-! ### items -/
@[simp] def gIx : D → D → (D → Prop) → Prop
  | .py (.list xs), .py (.int i), Q => ∃ d, atI xs i = some d ∧ Q (.py d)
  | .py (.tuple xs), .py (.int i), Q => ∃ d, atI xs i = some d ∧ Q (.py d)
  | .py (.str z), .py (.int i), Q => z.length ≤ sizeLine ∧ ∃ c, atI z.cps.toList i = some c ∧ Q (.py (.str (mkS [c])))
  | _, _, _ => False
theorem Rqs.atI {Z : Addr → Prop} {H : Hp} {v : List V} {d : List PyData} {i : Int} {x : PyData} (r : Rqs Z H v d) (h : L2.atI d i = some x) : ∃ u, L2.atI v i = some u ∧ Rq Z H u x := by
  unfold L2.atI at h ⊢
  rw [r.length]
  cases e : ixN d.length i with
  | none => rw [e] at h; cases h
  | some j =>
    rw [e] at h
    exact r.get h
theorem rd_ix {K : PySem.W.Frag} : OpD b (RE b) (rIx K) gIx := by
  intro Z H x y dx dy Q Qd gd rx ry h k
  match dx, dy, h, rx, ry with
  | .py (.list xs), .py (.int i), ⟨d, e, h⟩, rx, ry =>
    obtain ⟨a, us, rfl, ha, qa⟩ := rx.list
    obtain ⟨w, e1, r1⟩ := qa.atI e
    exact .inl ⟨a, us, i, w, rfl, ry.int, SqL.of ha, e1, k w H (.py d) Ex.refl gd.g r1 h⟩
  | .py (.tuple xs), .py (.int i), ⟨d, e, h⟩, rx, ry =>
    obtain ⟨a, oa, us, rfl, ha, da, na, qa⟩ := rx.tuple
    obtain ⟨w, e1, r1⟩ := qa.atI e
    exact .inr (.inl ⟨a, us, i, w, rfl, ry.int, SqT.th ha, e1, k w H (.py d) Ex.refl gd.g r1 h⟩)
  | .py (.str z), .py (.int i), ⟨hl, c, e, h⟩, rx, ry =>
    exact .inr (.inr ⟨z, i, c, rx.str, ry.int, hl, e, k _ H (.py (.str (mkS [c]))) Ex.refl gd.g (.str _) h⟩)
theorem ve_ix (h1 : VX X b W e1 t1) (h2 : VX X b W e2 t2) (hs : PlainIx e2 := by exact fun _ _ => rfl) : VE X b W (.Subscript e1 e2 pos) (vBin gIx t1 t2) :=
  pe_mono (pe_ix ix_seq h1 h2 hs) (core2 hRE rd_ix)
/-! ### slices -/
def cutL {α : Type} (xs : List α) (lo hi : Option Int) : List α := (xs.drop (HT.sIx xs.length 0 lo)).take (HT.sIx xs.length xs.length hi - HT.sIx xs.length 0 lo)
theorem Rqs.cut {Z : Addr → Prop} {H : Hp} {v : List V} {d : List PyData} (lo hi : Option Int) (r : Rqs Z H v d) : Rqs Z H (cutV v lo hi) (cutL d lo hi) := by
  unfold cutV cutL
  rw [r.length]
  exact (r.drop _).take _
theorem cutL_whole {α : Type} {xs : List α} {lo hi : Option Int} (h : HT.sIx xs.length 0 lo = 0 ∧ HT.sIx xs.length xs.length hi = xs.length) : cutL xs lo hi = xs := by
  unfold cutL
  rw [h.1, h.2]
  simp
abbrev VO := VEnv → (Option Int → Prop) → (Er → Prop) → Prop
def LO (b : Bg) (W : WX) (t : VO) : TO := fun σ H Q => ∃ Zo Z ρ Qd Ed, VOk b Zo Z σ H ρ ∧ t ρ Qd Ed ∧
  (∀ k H', Ex b H H' → b.G H' → Qd k → Q k H') ∧ ∀ c x H' er, Ex b H H' → b.G H' → ErRp b Z H' c x er → Ed er → W c x σ H'
def VPt (X : Cx) (b : Bg) (W : WX) (e : Option Expr) (t : VO) : Prop := PO X e (LO b W t)
theorem po_mono {e : Option Expr} {t t' : TO} (h : PO X e t) (m : ∀ σ H Q, t' σ H Q → t σ H Q) : PO X e t' := ⟨fun pins s σ H Q I q => h.run pins s σ H Q I (m σ H Q q)⟩
@[simp] def oNo : VO := fun _ Q _ => Q none
@[simp] def oAt (t : VT) : VO := fun ρ Q E => t ρ (fun d => ∃ i, d = .py (.int i) ∧ Q (some i)) E
theorem vo_no : VPt X b W none oNo := po_mono po_none fun σ H Q ⟨Zo, Z, ρ, Qd, Ed, v, q, l, m⟩ => l none H Ex.refl v.g q
theorem vo_at (h : VX X b W e t) : VPt X b W (some e) (oAt t) := po_mono (po_some h) fun σ H Q ⟨Zo, Z, ρ, Qd, Ed, v, q, l, m⟩ => ⟨Zo, Z, ρ, _, Ed, v, q, fun x H1 d x1 g1 r1 ⟨i, e, q1⟩ => by
    subst e
    exact ⟨i, r1.int, l _ H1 x1 g1 q1⟩, m⟩
@[simp] def gSl : D → Option Int → Option Int → (D → Prop) → Prop
  | .py (.list xs), lo, hi, Q => Q (.py (.list (cutL xs lo hi)))
  | .py (.tuple xs), lo, hi, Q => Q (.py (.tuple (cutL xs lo hi)))
  | .py (.str z), lo, hi, Q => z.length ≤ sizeLine ∧ Q (.py (.str (mkS (cutL z.cps.toList lo hi))))
  | _, _, _, _ => False
@[simp] def gSlL : D → Option Int → Option Int → (D → Prop) → Prop
  | .py (.list xs), lo, hi, Q => Q (.py (.list (cutL xs lo hi)))
  | _, _, _, _ => False
@[simp] def vSl (g : D → Option Int → Option Int → (D → Prop) → Prop) (t : VT) (tl th : VO) : VT := fun ρ Q E => t ρ (fun x => tl ρ (fun lo => th ρ (fun hi => g x lo hi Q) E) E) E
def SliD (b : Bg) (R : (Addr → Prop) → Hp → Hp → V → D → Prop) (r : V → Option Int → Option Int → Hp → VK → Prop) (g : D → Option Int → Option Int → (D → Prop) → Prop) : Prop :=
  ∀ (Z : Addr → Prop) (H : Hp) (x : V) (lo hi : Option Int) (dx : D) (Q : VK) (Qd : D → Prop), Gd b Z H → Rb b Z H x dx → g dx lo hi Qd → (∀ v H' d, Ex b H H' → b.G H' → R Z H H' v d → Qd d → Q v H') → r x lo hi H Q
theorem coreS {R : (Addr → Prop) → Hp → Hp → V → D → Prop} {r : V → Option Int → Option Int → Hp → VK → Prop} {g : D → Option Int → Option Int → (D → Prop) → Prop} {tl th : VO} (hR : ∀ Z H H1 H2 v d, b.G H1 → Ex b H H1 → R Z H1 H2 v d → R Z H H2 v d) (hd : SliD b R r g) :
    ∀ σ H Q, LE b W R (vSl g t tl th) σ H Q → tSl r (LE b W (fun Z _ H v d => Rb b Z H v d) t) (LO b W tl) (LO b W th) σ H Q :=
  fun σ H Q ⟨Zo, Z, ρ, Qd, Ed, v, q, l, m⟩ => ⟨Zo, Z, ρ, _, Ed, v, q, fun x H1 d x1 g1 r1 q1 =>
    ⟨Zo, Z, ρ, _, Ed, v.ex x1 g1, q1, fun lo H2 x2 g2 q2 => ⟨Zo, Z, ρ, _, Ed, (v.ex x1 g1).ex x2 g2, q2, fun hi H3 x3 g3 q3 =>
        hd Z H3 x lo hi d Q Qd (((v.ex x1 g1).ex x2 g2).ex x3 g3).gd ((r1.ex ((v.ex x1 g1).keep x2) x2).ex (((v.ex x1 g1).ex x2 g2).keep x3) x3) q3 fun u H4 d4 x4 g4 r4 q4 => l u H4 d4 (((x1.trans x2).trans x3).trans x4) g4 (hR _ _ _ _ _ _ g3 ((x1.trans x2).trans x3) r4) q4,
        fun c z H3 er x3 g3 r3 q3 => m c z H3 er ((x1.trans x2).trans x3) g3 r3 q3⟩,
      fun c z H2 er x2 g2 r2 q2 => m c z H2 er (x1.trans x2) g2 r2 q2⟩, m⟩
theorem rd_slL {K : PySem.W.Frag} : SliD b (RN b) (rSlL K) gSlL := by
  intro Z H x lo hi dx Q Qd gd rx h k
  match dx, h, rx with
  | .py (.list xs), h, rx =>
    obtain ⟨a, us, rfl, ha, qa⟩ := rx.list
    exact ⟨a, us, rfl, SqL.of ha, fun p hp => k _ _ (.py (.list (cutL xs lo hi))) (Ex.new hp) (gd.new hp) ⟨p, rfl, hp, _, upd_same, (qa.cut lo hi).up' hp⟩ h⟩
theorem cutS_eq (z : Str) (lo hi : Option Int) : cutS z lo hi = mkS (cutL z.cps.toList lo hi) := by
  unfold cutS cutL
  first | rfl | simp [Str.length]
theorem rd_sl {K : PySem.W.Frag} : SliD b (RE b) (fun x lo hi H Q => rSlL K x lo hi H Q ∨ (fun x lo hi H Q => rSlF K x lo hi H Q ∨ rSlS x lo hi H Q) x lo hi H Q) gSl := by
  intro Z H x lo hi dx Q Qd gd rx h k
  match dx, h, rx with
  | .py (.list xs), h, rx =>
    refine .inl (rd_slL Z H x lo hi (.py (.list xs)) Q Qd gd rx h fun v H' d x1 g1 ⟨a, e, n, o⟩ q1 => k v H' d x1 g1 ?_ q1)
    subst e
    exact o.rp (fun _ z => .inl z) (gd.fresh n)
  | .py (.tuple xs), h, rx =>
    obtain ⟨a, oa, us, rfl, ha, da, na, qa⟩ := rx.tuple
    refine .inr (.inl ⟨a, us, rfl, SqT.th ha, fun hw => ?_, fun _ p o hp ho => ?_⟩)
    · rw [qa.length] at hw
      have h : Qd (.py (.tuple (cutL xs lo hi))) := h
      rw [cutL_whole hw] at h
      exact k _ H (.py (.tuple xs)) Ex.refl gd.g (.tup ha da na qa) h
    · exact k _ _ (.py (.tuple (cutL xs lo hi))) (Ex.new hp) (gd.new hp) (.tup upd_same ho (gd.fresh hp) ((qa.cut lo hi).up hp)) h
  | .py (.str z), ⟨hl, h⟩, rx =>
    refine .inr (.inr ⟨z, rx.str, hl, ?_⟩)
    rw [cutS_eq]
    exact k _ H (.py (.str _)) Ex.refl gd.g (.str _) h
theorem ve_sl {lo hi : Option Expr} {tl th : VO} {p2 : Pos} (h : VX X b W e t) (h1 : VPt X b W lo tl) (h2 : VPt X b W hi th) : VE X b W (.Subscript e (.Slice lo hi none p2) pos) (vSl gSl t tl th) :=
  pe_mono (pe_slice (sl_list.or (sl_tupF.or sl_str)) h h1 h2) (coreS hRE rd_sl)
end
end VL
set_option Elab.async false
set_option linter.all false
set_option maxRecDepth 100000
set_option maxHeartbeats 4000000
namespace VL
open PySem PySem.Spec PyProof.Rows L2
section
variable {X : Cx} {b : Bg} {W : WX} {e e1 e2 e3 o : Expr} {es : List Expr} {t t1 t2 t3 : VT} {u : VA} {pos p apos cpos : Pos} {x name : Str} {id T : String}
theorem Rbs.one {Z : Addr → Prop} {H : Hp} {v : List V} {d : D} (r : Rbs b Z H v [d]) : ∃ x, v = [x] ∧ Rb b Z H x d := by
  cases r with
  | cons r t => cases t; exact ⟨_, rfl, r⟩
theorem Rbs.two {Z : Addr → Prop} {H : Hp} {v : List V} {d d2 : D} (r : Rbs b Z H v [d, d2]) : ∃ x y, v = [x, y] ∧ Rb b Z H x d ∧ Rb b Z H y d2 := by
  cases r with
  | cons r t =>
    cases t with
    | cons r2 t => cases t; exact ⟨_, _, rfl, r, r2⟩
/-! ### built-in functions -/
@[simp] def gLen : List D → (D → Prop) → Prop
  | [.py (.list xs)], Q => Q (.py (.int xs.length))
  | [.py (.tuple xs)], Q => Q (.py (.int xs.length))
  | [.py (.str z)], Q => z.length ≤ sizeLine ∧ Q (.py (.int z.length))
  | [.py (.dict xs)], Q => Q (.py (.int xs.length))
  | _, _ => False
def rLen (K : PySem.W.Frag) : List V → Hp → VK → Prop := fun xs H Q => (fun xs H Q => ∃ x n, xs = [x] ∧ LenV K x H n ∧ Q (.int n) H) xs H Q ∨ (fun xs H Q => ∃ a kvs, xs = [V.ref a] ∧ H a = some (.dK kvs) ∧ Q (.int kvs.length) H) xs H Q
theorem rd_len : CalD b (RE b) (rLen X.K) gLen := by
  intro Z H vs ds Q Qd gd rx h k
  match ds, h, rx with
  | [.py (.list xs)], h, rx =>
    obtain ⟨x, rfl, r⟩ := rx.one
    obtain ⟨a, us, rfl, ha, qa⟩ := r.list
    exact .inl ⟨_, us.length, rfl, .inl ⟨us, SqL.of ha, rfl⟩, k _ H (.py (.int us.length)) Ex.refl gd.g (.int _) (by rw [qa.length]; exact h)⟩
  | [.py (.tuple xs)], h, rx =>
    obtain ⟨x, rfl, r⟩ := rx.one
    obtain ⟨a, oa, us, rfl, ha, da, na, qa⟩ := r.tuple
    exact .inl ⟨_, us.length, rfl, .inr ⟨us, SqT.th ha, rfl⟩, k _ H (.py (.int us.length)) Ex.refl gd.g (.int _) (by rw [qa.length]; exact h)⟩
  | [.py (.str z)], ⟨hl, h⟩, rx =>
    obtain ⟨x, rfl, r⟩ := rx.one
    exact .inl ⟨_, z.length, rfl, (by rw [r.str]; exact ⟨hl, rfl⟩), k _ H (.py (.int z.length)) Ex.refl gd.g (.int _) h⟩
  | [.py (.dict xs)], h, rx =>
    obtain ⟨x, rfl, r⟩ := rx.one
    obtain ⟨a, us, rfl, ha, qa⟩ := r.dict
    exact .inr ⟨a, us, rfl, ha, k _ H (.py (.int us.length)) Ex.refl gd.g (.int _) (by rw [qa.length]; exact h)⟩
theorem ve_len (hg : Gl X "len") (hm : X.mg "len" = none) (ha : VXs X b W [e] u) (he : starEach [e] X.env = (false, eval e X.env) :: starEach [] X.env := by rfl) (hpl : (backTo pos (starEach [] X.env)).any (·.1) = false := by rfl) :
    VE X b W (.Call (.Name "len" p) [e] [] pos) (vCal gLen u) := ve_callB (CallR.or call_len call_lenD) rd_len hg hm PySem.boot_len ha (by decide) (by decide) he hpl
@[simp] def gAbs : List D → (D → Prop) → Prop
  | [.py (.int i)], Q => Q (.py (.int (if i < 0 then -i else i)))
  | _, _ => False
@[simp] def gInt : List D → (D → Prop) → Prop
  | [.py (.int i)], Q => Q (.py (.int i))
  | [.py (.bool k)], Q => Q (.py (.int (if k then 1 else 0)))
  | [.py (.str z)], Q => ∃ n, intText? z = some n ∧ z.length ≤ 640 ∧ Q (.py (.int n))
  | _, _ => False
theorem rd_int : CalD b (RE b) (fun xs H Q => (fun xs H Q => (∃ i, xs = [.int i] ∧ Q (.int i) H) ∨ ∃ k, xs = [.bl k] ∧ Q (.int (if k then 1 else 0)) H) xs H Q ∨ (fun xs H Q => ∃ a n, xs = [.str a] ∧ PySem.intText? a = some n ∧ a.length ≤ 640 ∧ Q (.int n) H) xs H Q) gInt := by
  intro Z H vs ds Q Qd gd rx h k
  match ds, h, rx with
  | [.py (.int i)], h, rx =>
    obtain ⟨x, rfl, r⟩ := rx.one
    exact .inl (.inl ⟨i, by rw [r.int], k _ H (.py (.int i)) Ex.refl gd.g (.int i) h⟩)
  | [.py (.bool i)], h, rx =>
    obtain ⟨x, rfl, r⟩ := rx.one
    exact .inl (.inr ⟨i, by rw [r.bool], k _ H (.py (.int _)) Ex.refl gd.g (.int _) h⟩)
  | [.py (.str z)], ⟨n, h1, h2, h⟩, rx =>
    obtain ⟨x, rfl, r⟩ := rx.one
    exact .inr ⟨z, n, by rw [r.str], h1, h2, k _ H (.py (.int n)) Ex.refl gd.g (.int n) h⟩
@[simp] def gStr : List D → (D → Prop) → Prop
  | [.py (.int i)], Q => i.natAbs.log2 < 1920 ∧ Q (.py (.str (toString i)))
  | [.py (.str z)], Q => Q (.py (.str z))
  | _, _ => False
@[simp] def gBool : List D → (D → Prop) → Prop
  | [.py (.int i)], Q => Q (.py (.bool (i != 0)))
  | [.py (.bool k)], Q => Q (.py (.bool k))
  | _, _ => False
@[simp] def gTuple : List D → (D → Prop) → Prop
  | [.py (.list xs)], Q => Q (.py (.tuple xs))
  | [.py (.tuple xs)], Q => Q (.py (.tuple xs))
  | _, _ => False
theorem rd_tuple {K : PySem.W.Frag} : CalD b (RE b) (rTupOf K) gTuple := by
  intro Z H vs ds Q Qd gd rx h k
  match ds, h, rx with
  | [.py (.list xs)], h, rx =>
    obtain ⟨x, rfl, r⟩ := rx.one
    obtain ⟨a, us, rfl, ha, qa⟩ := r.list
    exact ⟨a, us, rfl, .inl ⟨SqL.of ha, fun p o hp ho => k _ _ (.py (.tuple xs)) (Ex.new hp) (gd.new hp) (.tup upd_same ho (gd.fresh hp) (qa.up hp)) h⟩⟩
  | [.py (.tuple xs)], h, rx =>
    obtain ⟨x, rfl, r⟩ := rx.one
    obtain ⟨a, oa, us, rfl, ha, da, na, qa⟩ := r.tuple
    exact ⟨a, us, rfl, .inr ⟨SqT.th ha, k _ H (.py (.tuple xs)) Ex.refl gd.g (.tup ha da na qa) h⟩⟩
@[simp] def gList : List D → (D → Prop) → Prop
  | [.py (.list xs)], Q => Q (.py (.list xs))
  | [.py (.tuple xs)], Q => Q (.py (.list xs))
  | _, _ => False
def allB : List PyData → Option (List Bool)
  | [] => some []
  | .bool k :: r => (allB r).map (k :: ·)
  | _ :: _ => none
def allI : List PyData → Option (List Int)
  | [] => some []
  | .int k :: r => (allI r).map (k :: ·)
  | _ :: _ => none
def allS : List PyData → Option (List Str)
  | [] => some []
  | .str k :: r => (allS r).map (k :: ·)
  | _ :: _ => none
theorem allB_of : ∀ {l : List PyData} {bs : List Bool}, allB l = some bs → l = bs.map PyData.bool
  | [], _, h => by cases h; rfl
  | .bool k :: r, bs, h => by
    cases e : allB r with
    | none => rw [allB, e] at h; cases h
    | some q => rw [allB, e] at h; cases h; rw [List.map_cons, ← allB_of e]
  | .none :: _, _, h | .int _ :: _, _, h | .str _ :: _, _, h | .list _ :: _, _, h | .tuple _ :: _, _, h | .dict _ :: _, _, h => by cases h
theorem allI_of : ∀ {l : List PyData} {bs : List Int}, allI l = some bs → l = bs.map PyData.int
  | [], _, h => by cases h; rfl
  | .int k :: r, bs, h => by
    cases e : allI r with
    | none => rw [allI, e] at h; cases h
    | some q => rw [allI, e] at h; cases h; rw [List.map_cons, ← allI_of e]
  | .none :: _, _, h | .bool _ :: _, _, h | .str _ :: _, _, h | .list _ :: _, _, h | .tuple _ :: _, _, h | .dict _ :: _, _, h => by cases h
theorem allS_of : ∀ {l : List PyData} {bs : List Str}, allS l = some bs → l = bs.map PyData.str
  | [], _, h => by cases h; rfl
  | .str k :: r, bs, h => by
    cases e : allS r with
    | none => rw [allS, e] at h; cases h
    | some q => rw [allS, e] at h; cases h; rw [List.map_cons, ← allS_of e]
  | .none :: _, _, h | .bool _ :: _, _, h | .int _ :: _, _, h | .list _ :: _, _, h | .tuple _ :: _, _, h | .dict _ :: _, _, h => by cases h
@[simp] def gSum : List D → (D → Prop) → Prop
  | [.py (.list xs)], Q => ∃ ns, allI xs = some ns ∧ Q (.py (.int ns.sum))
  | _, _ => False
@[simp] def gAll : List D → (D → Prop) → Prop
  | [.py (.list xs)], Q => ∃ ns, allB xs = some ns ∧ Q (.py (.bool (ns.all fun k => k)))
  | _, _ => False
@[simp] def gAny : List D → (D → Prop) → Prop
  | [.py (.list xs)], Q => ∃ ns, allB xs = some ns ∧ Q (.py (.bool (ns.any fun k => k)))
  | _, _ => False
theorem rd_all {K : PySem.W.Frag} : CalD b (RE b) (rAll K) gAll := by
  intro Z H vs ds Q Qd gd rx h k
  match ds, h, rx with
  | [.py (.list xs)], ⟨ns, e, h⟩, rx =>
    obtain ⟨x, rfl, r⟩ := rx.one
    obtain ⟨a, us, rfl, ha, qa⟩ := r.list
    rw [allB_of e] at qa
    rw [qa.bools] at ha
    exact ⟨a, ns, rfl, SqL.of ha, k _ H (.py (.bool _)) Ex.refl gd.g (.bl _) h⟩
/-- the greatest, the least -/
def maxL : List Int → Int
  | [] => 0
  | [a] => a
  | a :: r => max a (maxL r)
def minL : List Int → Int
  | [] => 0
  | [a] => a
  | a :: r => min a (minL r)
theorem maxL_spec : ∀ (l : List Int), l ≠ [] → maxL l ∈ l ∧ ∀ y, y ∈ l → y ≤ maxL l
  | [], h => absurd rfl h
  | [a], _ => by simp [maxL]
  | a :: c :: r, _ => by
    obtain ⟨h1, h2⟩ := maxL_spec (c :: r) (by simp)
    show max a (maxL (c :: r)) ∈ _ ∧ ∀ y, y ∈ _ → y ≤ max a (maxL (c :: r))
    refine ⟨?_, fun y hy => ?_⟩
    · rcases Int.le_total a (maxL (c :: r)) with h | h
      · rw [Int.max_eq_right h]; exact List.mem_cons_of_mem _ h1
      · rw [Int.max_eq_left h]; exact List.mem_cons_self
    · rcases List.mem_cons.mp hy with rfl | hy
      · exact Int.le_max_left _ _
      · exact Int.le_trans (h2 y hy) (Int.le_max_right _ _)
theorem minL_spec : ∀ (l : List Int), l ≠ [] → minL l ∈ l ∧ ∀ y, y ∈ l → minL l ≤ y
  | [], h => absurd rfl h
  | [a], _ => by simp [minL]
  | a :: c :: r, _ => by
    obtain ⟨h1, h2⟩ := minL_spec (c :: r) (by simp)
    show min a (minL (c :: r)) ∈ _ ∧ ∀ y, y ∈ _ → min a (minL (c :: r)) ≤ y
    refine ⟨?_, fun y hy => ?_⟩
    · rcases Int.le_total a (minL (c :: r)) with h | h
      · rw [Int.min_eq_left h]; exact List.mem_cons_self
      · rw [Int.min_eq_right h]; exact List.mem_cons_of_mem _ h1
    · rcases List.mem_cons.mp hy with rfl | hy
      · exact Int.min_le_left _ _
      · exact Int.le_trans (Int.min_le_right _ _) (h2 y hy)
@[simp] def gMax : List D → (D → Prop) → Prop
  | [.py (.list xs)], Q => ∃ ns, allI xs = some ns ∧ ns ≠ [] ∧ Q (.py (.int (maxL ns)))
  | [.py (.int i), .py (.int j)], Q => Q (.py (.int (max i j)))
  | _, _ => False
@[simp] def gMin : List D → (D → Prop) → Prop
  | [.py (.list xs)], Q => ∃ ns, allI xs = some ns ∧ ns ≠ [] ∧ Q (.py (.int (minL ns)))
  | [.py (.int i), .py (.int j)], Q => Q (.py (.int (min i j)))
  | _, _ => False
theorem rd_max {K : PySem.W.Frag} : CalD b (RE b) (fun xs H Q => (fun xs H Q => ∃ i j, xs = [.int i, .int j] ∧ Q (.int (if j > i then j else i)) H) xs H Q ∨ rMax K xs H Q) gMax := by
  intro Z H vs ds Q Qd gd rx h k
  match ds, h, rx with
  | [.py (.list xs)], ⟨ns, e, hne, h⟩, rx =>
    obtain ⟨x, rfl, r⟩ := rx.one
    obtain ⟨a, us, rfl, ha, qa⟩ := r.list
    rw [allI_of e] at qa
    rw [qa.ints] at ha
    refine .inr ⟨a, ns, rfl, SqL.of ha, List.length_pos_iff.mpr hne, fun m hm hl => ?_⟩
    obtain ⟨h1, h2⟩ := maxL_spec ns hne
    have e : m = maxL ns := Int.le_antisymm (h2 m hm) (hl _ h1)
    rw [e]
    exact k _ H (.py (.int _)) Ex.refl gd.g (.int _) h
  | [.py (.int i), .py (.int j)], h, rx =>
    obtain ⟨x, y, rfl, r1, r2⟩ := rx.two
    refine .inl ⟨i, j, by rw [r1.int, r2.int], ?_⟩
    have e : (if j > i then j else i) = max i j := by split <;> omega
    rw [e]
    exact k _ H (.py (.int _)) Ex.refl gd.g (.int _) h
theorem rd_min {K : PySem.W.Frag} : CalD b (RE b) (fun xs H Q => (fun xs H Q => ∃ i j, xs = [.int i, .int j] ∧ Q (.int (if j < i then j else i)) H) xs H Q ∨ rMin K xs H Q) gMin := by
  intro Z H vs ds Q Qd gd rx h k
  match ds, h, rx with
  | [.py (.list xs)], ⟨ns, e, hne, h⟩, rx =>
    obtain ⟨x, rfl, r⟩ := rx.one
    obtain ⟨a, us, rfl, ha, qa⟩ := r.list
    rw [allI_of e] at qa
    rw [qa.ints] at ha
    refine .inr ⟨a, ns, rfl, SqL.of ha, List.length_pos_iff.mpr hne, fun m hm hl => ?_⟩
    obtain ⟨h1, h2⟩ := minL_spec ns hne
    have e : m = minL ns := Int.le_antisymm (hl _ h1) (h2 m hm)
    rw [e]
    exact k _ H (.py (.int _)) Ex.refl gd.g (.int _) h
  | [.py (.int i), .py (.int j)], h, rx =>
    obtain ⟨x, y, rfl, r1, r2⟩ := rx.two
    refine .inl ⟨i, j, by rw [r1.int, r2.int], ?_⟩
    have e : (if j < i then j else i) = min i j := by split <;> omega
    rw [e]
    exact k _ H (.py (.int _)) Ex.refl gd.g (.int _) h
/-! ### isinstance of built-in kinds -/
/-- is data of that built-in class? -/
@[simp] def dInt : PyData → Bool
  | .int _ => true | .bool _ => true | _ => false
@[simp] def dBool : PyData → Bool
  | .bool _ => true | _ => false
@[simp] def dStr : PyData → Bool
  | .str _ => true | _ => false
@[simp] def dTuple : PyData → Bool
  | .tuple _ => true | _ => false
@[simp] def dList : PyData → Bool
  | .list _ => true | _ => false
def isK (T : String) (d : PyData) : Option Bool := if T = "int" then some (dInt d) else if T = "bool" then some (dBool d) else if T = "str" then some (dStr d) else if T = "tuple" then some (dTuple d) else if T = "list" then some (dList d) else none
@[simp] theorem isK_int (d : PyData) : isK "int" d = some (dInt d) := rfl
@[simp] theorem isK_bool (d : PyData) : isK "bool" d = some (dBool d) := rfl
@[simp] theorem isK_str (d : PyData) : isK "str" d = some (dStr d) := rfl
@[simp] theorem isK_tuple (d : PyData) : isK "tuple" d = some (dTuple d) := rfl
@[simp] theorem isK_list (d : PyData) : isK "list" d = some (dList d) := rfl
def tyName : PyData → String
  | .none => "NoneType" | .bool _ => "bool" | .int _ => "int" | .str _ => "str" | .list _ => "list" | .tuple _ => "tuple" | .dict _ => "dict"
theorem isi_int (d : PyData) : kitB (tyName d) "int" = some (dInt d) := by cases d <;> (simp only [tyName, dInt]; decide +kernel)
theorem isi_bool (d : PyData) : kitB (tyName d) "bool" = some (dBool d) := by cases d <;> (simp only [tyName, dBool]; decide +kernel)
theorem isi_str (d : PyData) : kitB (tyName d) "str" = some (dStr d) := by cases d <;> (simp only [tyName, dStr]; decide +kernel)
theorem isi_tuple (d : PyData) : kitB (tyName d) "tuple" = some (dTuple d) := by cases d <;> (simp only [tyName, dTuple]; decide +kernel)
theorem isi_list (d : PyData) : kitB (tyName d) "list" = some (dList d) := by cases d <;> (simp only [tyName, dList]; decide +kernel)
theorem isi_of {T : String} {d : PyData} {c : Bool} (h : isK T d = some c) : kitB (tyName d) T = some c := by
  unfold isK at h
  split at h
  · subst T; rw [isi_int]; exact h
  split at h
  · subst T; rw [isi_bool]; exact h
  split at h
  · subst T; rw [isi_str]; exact h
  split at h
  · subst T; rw [isi_tuple]; exact h
  split at h
  · subst T; rw [isi_list]; exact h
  · cases h
theorem tyx_of {K : PySem.W.Frag} {Z : Addr → Prop} {H : Hp} {v : V} {d : PyData} (r : Rq Z H v d) : TyX K H v (.type (tyName d)) := by
  cases r with
  | non => exact .base .non
  | bl k => exact .base (.bl k)
  | int i => exact .base (.int i)
  | str x => exact .base (.str x)
  | lst e n q => exact .base (.lst e)
  | tup e h n q => exact .fTuple e
  | dct e n q => exact .base (.dK e)
@[simp] def gIsi : List D → (D → Prop) → Prop
  | [.py d, .raw (.ty T)], Q => ∃ k, isK T d = some k ∧ Q (.py (.bool k))
  | _, _ => False
theorem rd_isi {K : PySem.W.Frag} : CalD b (RE b) (rIsi K) gIsi := by
  intro Z H vs ds Q Qd gd rx h k
  match ds, h, rx with
  | [.py d, .raw (.ty T)], ⟨c, e, h⟩, rx =>
    obtain ⟨x, y, rfl, r1, r2⟩ := rx.two
    have ey : y = .ty T := by
      rcases r2 with r | ⟨a, e, _, _, q⟩
      · exact r
      · exact q.elim
    subst ey
    exact ⟨x, .ty T, _, .type T, c, rfl, .ty T, tyx_of r1.q, kit_ty (isi_of e), k _ H (.py (.bool c)) Ex.refl gd.g (.bl c) h⟩
/-- the built-in class as a value -/
theorem ve_ty {T : String} {x : Str} (hg : Gl X x) (hm : X.mg x = none) (hv : bootBuiltins x = some (.type T)) (hn : x ≠ "__name__" := by decide) (hd : (x == ("__debug__" : Str)) = false := by decide) : VE X b W (.Name x pos) (vC (.raw (.ty T))) :=
  ve_raw (pe_bltn hg hm hv rfl hn hd)
end
end VL
set_option Elab.async false
set_option linter.all false
set_option maxRecDepth 100000
set_option maxHeartbeats 4000000
namespace VL
open PySem PySem.Spec PyProof.Rows L2
/-- VOk in a running def: H0 the heap at its entry (or a loop's), M what may have been written since -/
structure FOk (b : Bg) (H0 : Hp) (M Zo Z : Addr → Prop) (σ : L2.St) (H : Hp) (ρ : VEnv) : Prop where
  v : VOk b Zo Z σ H ρ
  ext : ∀ a o, H0 a = some o → ¬ b.B a → ¬ M a → H a = some o
  fr : ∀ (i : Nat) (d : D) (a : Addr), ρ[i]? = some (.own d) → σ[i]? = some (some (.ref a)) → M a ∨ H0 a = none
structure VEnds where
  nx : VEnv → Prop
  rt : D → Prop
  bk : VEnv → Prop
  ct : VEnv → Prop
  ex : VEnv → Er → Prop
abbrev VS := VEnv → VEnds → Prop
/-- what the ends of a reading mean over the heap -/
structure Lk (b : Bg) (W : WX) (H0 : Hp) (M Zo : Addr → Prop) (De : VEnds) (D : Ends) : Prop where
  nx : ∀ Z σ H ρ, FOk b H0 M Zo Z σ H ρ → De.nx ρ → D.nx σ H
  rt : ∀ v H d, (∀ a o, H0 a = some o → ¬ b.B a → ¬ M a → H a = some o) → b.G H → Rp b Zo H v d → De.rt d → D.rt v H
  bk : ∀ Z σ H ρ, FOk b H0 M Zo Z σ H ρ → De.bk ρ → D.bk σ H
  ct : ∀ Z σ H ρ, FOk b H0 M Zo Z σ H ρ → De.ct ρ → D.ct σ H
  ex : ∀ c x Z σ H ρ er, FOk b H0 M Zo Z σ H ρ → ErRp b Z H c x er → De.ex ρ er → W c x σ H
def LS (b : Bg) (W : WX) (t : VS) : TS := fun D σ H => ∃ H0 M Zo Z ρ De, FOk b H0 M Zo Z σ H ρ ∧ t ρ De ∧ Lk b W H0 M Zo De D
def VSt (X : Cx) (b : Bg) (W : WX) (st : Stmt) (t : VS) : Prop := PS X st (LS b W t)
def VSs (X : Cx) (b : Bg) (W : WX) (st : List Stmt) (t : VS) : Prop := PSs X st (LS b W t)
section
variable {b : Bg} {W : WX} {H0 : Hp} {M Zo Z : Addr → Prop} {σ : L2.St} {H H' : Hp} {ρ : VEnv} {De : VEnds} {Dn : Ends}
theorem FOk.ex (f : FOk b H0 M Zo Z σ H ρ) (x : Ex b H H') (g : b.G H') : FOk b H0 M Zo Z σ H' ρ := ⟨f.v.ex x g, fun a o e nb nm => x a o (f.ext a o e nb nm) nb, f.fr⟩
/-- the error link of an expression -/
theorem Lk.er (l : Lk b W H0 M Zo De Dn) (f : FOk b H0 M Zo Z σ H ρ) : ∀ c x H' er, Ex b H H' → b.G H' → ErRp b Z H' c x er → De.ex ρ er → W c x σ H' := fun c x H' er x1 g1 r q => l.ex c x Z σ H' ρ er (f.ex x1 g1) r q
/-- the owned addresses but slot i's -/
def zBut (Zo : Addr → Prop) (σ : L2.St) (ρ : VEnv) (i : Nat) : Addr → Prop := fun a => Zo a ∨ ∃ (j : Nat) (e : D), j ≠ i ∧ ρ[j]? = some (.own e) ∧ σ[j]? = some (some (.ref a))
theorem VOk.but (v : VOk b Zo Z σ H ρ) (i : Nat) : ∀ a, zBut Zo σ ρ i a → Z a := fun a z => by
  rcases z with z | ⟨j, e, _, h1, h2⟩
  · exact v.zo a z
  · obtain ⟨c, h3, h4, _⟩ := v.own j e h1
    rw [h2] at h3; cases h3; exact h4
theorem FOk.set (f : FOk b H0 M Zo Z σ H ρ) {i : Nat} {u : V} {d : D} (hi : i < ρ.length) (r : Rp b Z H u d) : FOk b H0 M Zo (zBut Zo σ ρ i) (σ.set i (some u)) H (ρ.set i (.shr d)) := by
  have v := f.v
  have sub := v.but i
  have hiσ : i < σ.length := by rw [← v.len]; exact hi
  have ow : ∀ {j : Nat} {e : D}, (ρ.set i (.shr d))[j]? = some (.own e) → j ≠ i ∧ ρ[j]? = some (.own e) := fun {j e} h => by
    by_cases hj : j = i
    · subst hj
      rw [List.getElem?_set_self hi] at h; cases h
    · rw [List.getElem?_set_ne (Ne.symm hj)] at h
      exact ⟨hj, h⟩
  refine ⟨⟨v.g, v.zb, fun a z => .inl z, fun a z => v.dom a (sub a z), fun a z => ?_, fun j e h => ?_, fun j k e e2 a h1 h2 h3 h4 => ?_, fun j e h => ?_, by simpa using v.len⟩, f.ext, fun j e a h1 h2 => ?_⟩
  · rcases z with z | ⟨j, e, hj, h1, h2⟩
    · exact .inl z
    · exact .inr ⟨j, e, by rw [List.getElem?_set_ne (Ne.symm hj)]; exact h1, by rw [List.getElem?_set_ne (Ne.symm hj)]; exact h2⟩
  · obtain ⟨hj, h⟩ := ow h
    obtain ⟨a, h1, h2, h3, h4⟩ := v.own j e h
    exact ⟨a, by rw [List.getElem?_set_ne (Ne.symm hj)]; exact h1, .inr ⟨j, e, hj, h, h1⟩, h3, h4.mono (fun c z => .inl (sub c z)) (fun _ _ e _ => e) fun _ e => e⟩
  · obtain ⟨hj, h1⟩ := ow h1
    obtain ⟨hk, h2⟩ := ow h2
    rw [List.getElem?_set_ne (Ne.symm hj)] at h3
    rw [List.getElem?_set_ne (Ne.symm hk)] at h4
    exact v.inj j k e e2 a h1 h2 h3 h4
  · by_cases hj : j = i
    · subst hj
      rw [List.getElem?_set_self hi] at h; cases h
      exact ⟨u, List.getElem?_set_self hiσ, r.mono (fun c z => .inl (sub c z)) fun _ _ e _ => e⟩
    · rw [List.getElem?_set_ne (Ne.symm hj)] at h
      obtain ⟨w, h1, h2⟩ := v.shr j e h
      exact ⟨w, by rw [List.getElem?_set_ne (Ne.symm hj)]; exact h1, h2.mono (fun c z => .inl (sub c z)) fun _ _ e _ => e⟩
  · obtain ⟨hj, h1⟩ := ow h1
    rw [List.getElem?_set_ne (Ne.symm hj)] at h2
    exact f.fr j e a h1 h2
/-- a new object given to slot i -/
theorem FOk.setN (f : FOk b H0 M Zo Z σ H ρ) {i : Nat} {u : V} {d : D} (hi : i < ρ.length) (x : Ex b H H') (g : b.G H') (r : Rn b Z H H' u d) : ∃ Z', FOk b H0 M Zo Z' (σ.set i (some u)) H' (ρ.set i (.own d)) := by
  obtain ⟨a, rfl, hn, o⟩ := r
  have v := f.v
  have v' := v.ex x g
  have sub := v.but i
  have nz : ¬ Z a := v.fresh hn
  have hiσ : i < σ.length := by rw [← v.len]; exact hi
  have hz : ∀ c, (zBut Zo σ ρ i c ∨ c = a) → Z c ∨ H c = none := fun c z => z.elim (fun z => .inl (sub c z)) fun e => .inr (by rw [e]; exact hn)
  have ow : ∀ {j : Nat} {e : D}, (ρ.set i (.own d))[j]? = some (.own e) → (j = i ∧ e = d) ∨ (j ≠ i ∧ ρ[j]? = some (.own e)) := fun {j e} h => by
    by_cases hj : j = i
    · subst hj
      rw [List.getElem?_set_self hi] at h; cases h; exact .inl ⟨rfl, rfl⟩
    · rw [List.getElem?_set_ne (Ne.symm hj)] at h
      exact .inr ⟨hj, h⟩
  have na : ∀ (j : Nat) (e : D) (c : Addr), ρ[j]? = some (.own e) → σ[j]? = some (some (.ref c)) → c ≠ a := fun j e c h1 h2 q => by
    obtain ⟨c', h3, h4, _⟩ := v.own j e h1
    rw [h2] at h3; cases h3; rw [q] at h4; exact nz h4
  refine ⟨fun c => zBut Zo σ ρ i c ∨ c = a, ⟨g, v.zb, fun c z => .inl (.inl z), fun c z => ?_, fun c z => ?_, fun j e h => ?_, fun j k e e2 c h1 h2 h3 h4 => ?_, fun j e h => ?_, by simpa using v.len⟩, fun c o e nb nm => x c o (f.ext c o e nb nm) nb, fun j e c h1 h2 => ?_⟩
  · rcases z with z | rfl
    · exact v'.dom c (sub c z)
    · obtain ⟨o', e⟩ := o.at
      rw [e]; simp
  · rcases z with (z | ⟨j, e, hj, h1, h2⟩) | rfl
    · exact .inl z
    · exact .inr ⟨j, e, by rw [List.getElem?_set_ne (Ne.symm hj)]; exact h1, by rw [List.getElem?_set_ne (Ne.symm hj)]; exact h2⟩
    · exact .inr ⟨i, d, List.getElem?_set_self hi, List.getElem?_set_self hiσ⟩
  · rcases ow h with ⟨rfl, rfl⟩ | ⟨hj, h⟩
    · exact ⟨a, List.getElem?_set_self hiσ, .inr rfl, fun z => nz (v.zo _ z), o.mono (fun c z => .inl (z.imp (sub c) id)) (fun _ _ e _ => e) fun _ e => e⟩
    · obtain ⟨c, h1, h2, h3, h4⟩ := v.own j e h
      exact ⟨c, by rw [List.getElem?_set_ne (Ne.symm hj)]; exact h1, .inl (.inr ⟨j, e, hj, h, h1⟩), h3, h4.mono hz (v.keep x) fun o q => x c o q fun z => h3 (v.zb c z)⟩
  · rcases ow h1 with ⟨q1, _⟩ | ⟨hj, p1⟩
    · rcases ow h2 with ⟨q2, _⟩ | ⟨hk, p2⟩
      · rw [q1, q2]
      · rw [q1, List.getElem?_set_self hiσ] at h3; cases h3
        rw [List.getElem?_set_ne (Ne.symm hk)] at h4
        exact absurd rfl (na k e2 _ p2 h4)
    · rw [List.getElem?_set_ne (Ne.symm hj)] at h3
      rcases ow h2 with ⟨q2, _⟩ | ⟨hk, p2⟩
      · rw [q2, List.getElem?_set_self hiσ] at h4; cases h4
        exact absurd rfl (na j e _ p1 h3)
      · rw [List.getElem?_set_ne (Ne.symm hk)] at h4
        exact v.inj j k e e2 c p1 p2 h3 h4
  · by_cases hj : j = i
    · subst hj
      rw [List.getElem?_set_self hi] at h; cases h
    · rw [List.getElem?_set_ne (Ne.symm hj)] at h
      obtain ⟨w, h1, h2⟩ := v.shr j e h
      exact ⟨w, by rw [List.getElem?_set_ne (Ne.symm hj)]; exact h1, h2.mono hz (v.keep x)⟩
  · rcases ow h1 with ⟨rfl, rfl⟩ | ⟨hj, h1⟩
    · rw [List.getElem?_set_self hiσ] at h2; cases h2
      cases q : H0 a with
      | none => exact .inr rfl
      | some u0 =>
        by_cases hb : b.B a
        · exact absurd hn (b.dom _ _ v.g hb)
        · by_cases hm : M a
          · exact .inl hm
          · have := f.ext a u0 q hb hm
            rw [hn] at this; cases this
    · rw [List.getElem?_set_ne (Ne.symm hj)] at h2
      exact f.fr j e c h1 h2
/-- slot i's object is changed -/
theorem FOk.mut (f : FOk b H0 M Zo Z σ H ρ) {i : Nat} {a : Addr} {d d' : D} {o : HO} (hr : ρ[i]? = some (.own d)) (hs : σ[i]? = some (some (.ref a))) (new : Ow b Z (upd H a o) a d') : FOk b H0 M Zo Z σ (upd H a o) (ρ.set i (.own d')) := by
  have v := f.v
  obtain ⟨c, h1, hz, hzo, how⟩ := v.own i d hr
  rw [hs] at h1; cases h1
  have hi : i < ρ.length := (List.getElem?_eq_some_iff.mp hr).1
  have nb : ¬ b.B a := fun z => hzo (v.zb a z)
  have keep : ∀ c o', H c = some o' → ¬ Z c → upd H a o c = some o' := fun c o' e n => by
    rw [upd_ne (fun q => n (by rw [q]; exact hz))]
    exact e
  have ow : ∀ {j : Nat} {e : D}, (ρ.set i (.own d'))[j]? = some (.own e) → (j = i ∧ e = d') ∨ (j ≠ i ∧ ρ[j]? = some (.own e)) := fun {j e} h => by
    by_cases hj : j = i
    · subst hj
      rw [List.getElem?_set_self hi] at h; cases h; exact .inl ⟨rfl, rfl⟩
    · rw [List.getElem?_set_ne (Ne.symm hj)] at h
      exact .inr ⟨hj, h⟩
  have old : ∀ {j : Nat} {e : D}, (ρ.set i (.own d'))[j]? = some (.own e) → ∃ e', ρ[j]? = some (.own e') := fun {j e} h => by
    rcases ow h with ⟨rfl, rfl⟩ | ⟨_, h⟩
    · exact ⟨d, hr⟩
    · exact ⟨e, h⟩
  refine ⟨⟨b.loc H _ (fun c hc => upd_ne fun q => nb (by rw [← q]; exact hc)) (fun c o ho e => by rw [upd_ne (fun q => how.noext o ho (by rw [← q]; exact e))]; exact e) v.g, v.zb, v.zo, fun c z => ?_, fun c z => ?_, fun j e h => ?_, fun j k e e2 c h1 h2 h3 h4 => ?_, fun j e h => ?_, by simpa using v.len⟩, fun c o' e nb' nm => ?_, fun j e c h1 h2 => ?_⟩
  · by_cases q : c = a
    · rw [q, upd_same]; simp
    · rw [upd_ne q]; exact v.dom c z
  · rcases v.zi c z with z | ⟨j, e, h1, h2⟩
    · exact .inl z
    · by_cases hj : j = i
      · subst hj
        exact .inr ⟨j, d', List.getElem?_set_self hi, h2⟩
      · exact .inr ⟨j, e, by rw [List.getElem?_set_ne (Ne.symm hj)]; exact h1, h2⟩
  · rcases ow h with ⟨rfl, rfl⟩ | ⟨hj, h⟩
    · exact ⟨a, hs, hz, hzo, new⟩
    · obtain ⟨c, h1, h2, h3, h4⟩ := v.own j e h
      have hca : c ≠ a := fun q => hj (v.inj j i e d a h hr (by rw [← q]; exact h1) hs)
      exact ⟨c, h1, h2, h3, h4.mono (fun _ z => .inl z) keep fun o' q => by rw [upd_ne hca]; exact q⟩
  · obtain ⟨e', h1⟩ := old h1
    obtain ⟨e2', h2⟩ := old h2
    exact v.inj j k e' e2' c h1 h2 h3 h4
  · by_cases hj : j = i
    · subst hj
      rw [List.getElem?_set_self hi] at h; cases h
    · rw [List.getElem?_set_ne (Ne.symm hj)] at h
      obtain ⟨w, h1, h2⟩ := v.shr j e h
      exact ⟨w, h1, h2.mono (fun _ z => .inl z) keep⟩
  · have h := f.ext c o' e nb' nm
    by_cases q : c = a
    · subst q
      rcases f.fr i d c hr hs with z | z
      · exact absurd z nm
      · rw [z] at e; cases e
    · rw [upd_ne q]; exact h
  · obtain ⟨e', h1⟩ := old h1
    exact f.fr j e' c h1 h2
/-- slot i's object is shared from now on -/
@[simp] def frz (i : Nat) (ρ : VEnv) : VEnv := match ρ[i]? with
  | some (.own d) => ρ.set i (.shr d)
  | _ => ρ
theorem FOk.frz (f : FOk b H0 M Zo Z σ H ρ) (i : Nat) : ∃ Z', FOk b H0 M Zo Z' σ H (VL.frz i ρ) := by
  unfold VL.frz
  cases hr : ρ[i]? with
  | none => exact ⟨Z, f⟩
  | some s =>
    cases s with
    | un => exact ⟨Z, f⟩
    | shr d => exact ⟨Z, f⟩
    | own d =>
      have v := f.v
      obtain ⟨a, hs, hz, hzo, ho⟩ := v.own i d hr
      have hi : i < ρ.length := (List.getElem?_eq_some_iff.mp hr).1
      have sub := v.but i
      have na : ¬ zBut Zo σ ρ i a := fun z => by
        rcases z with z | ⟨j, e, hj, h1, h2⟩
        · exact hzo z
        · exact hj (v.inj j i e d a h1 hr h2 hs)
      have rp : Rp b (zBut Zo σ ρ i) H (.ref a) d := ho.rp sub na
      have eσ : σ.set i (some (.ref a)) = σ := by
        apply List.ext_getElem?
        intro j
        by_cases hj : j = i
        · subst hj
          rw [List.getElem?_set_self (List.getElem?_eq_some_iff.mp hs).1, hs]
        · rw [List.getElem?_set_ne (Ne.symm hj)]
      refine ⟨zBut Zo σ ρ i, ?_⟩
      -- as FOk.set, but the value is no longer owned
      have ow : ∀ {j : Nat} {e : D}, (ρ.set i (.shr d))[j]? = some (.own e) → j ≠ i ∧ ρ[j]? = some (.own e) := fun {j e} h => by
        by_cases hj : j = i
        · subst hj
          rw [List.getElem?_set_self hi] at h; cases h
        · rw [List.getElem?_set_ne (Ne.symm hj)] at h
          exact ⟨hj, h⟩
      refine ⟨⟨v.g, v.zb, fun a z => .inl z, fun a z => v.dom a (sub a z), fun c z => ?_, fun j e h => ?_, fun j k e e2 c h1 h2 h3 h4 => ?_, fun j e h => ?_, by simpa using v.len⟩, f.ext, fun j e c h1 h2 => f.fr j e c (ow h1).2 h2⟩
      · rcases z with z | ⟨j, e, hj, h1, h2⟩
        · exact .inl z
        · exact .inr ⟨j, e, by rw [List.getElem?_set_ne (Ne.symm hj)]; exact h1, h2⟩
      · obtain ⟨hj, h⟩ := ow h
        obtain ⟨c, h1, h2, h3, h4⟩ := v.own j e h
        exact ⟨c, h1, .inr ⟨j, e, hj, h, h1⟩, h3, h4.mono (fun c z => .inl (sub c z)) (fun _ _ e _ => e) fun _ e => e⟩
      · exact v.inj j k e e2 c (ow h1).2 (ow h2).2 h3 h4
      · by_cases hj : j = i
        · subst hj
          rw [List.getElem?_set_self hi] at h; cases h
          exact ⟨.ref a, hs, rp⟩
        · rw [List.getElem?_set_ne (Ne.symm hj)] at h
          obtain ⟨w, h1, h2⟩ := v.shr j e h
          exact ⟨w, h1, h2.mono (fun c z => .inl (sub c z)) fun _ _ e _ => e⟩
/-- a value that may leave -/
theorem FOk.out (f : FOk b H0 M Zo Z σ H ρ) {u : V} {d : D} (r : Rp b Z H u d) : Rp b Zo H u d := r.mono (fun c z => .inl (f.v.zo c z)) fun _ _ e _ => e
end
/-! ### statements -/
section
variable {X : Cx} {b : Bg} {W : WX} {e e1 e2 : Expr} {st : Stmt} {sts : List Stmt} {t t1 t2 : VT} {u : VA} {g h : VS} {pos pos' : Pos} {i : Nat} {x : Str}
@[simp] def sNext : VS := fun ρ De => De.nx ρ
@[simp] def sSeq (g h : VS) : VS := fun ρ De => g ρ { De with nx := fun ρ' => h ρ' De }
theorem vs_nil : VSs X b W [] sNext := pss_mono pss_nil fun D σ H ⟨H0, M, Zo, Z, ρ, De, f, q, l⟩ => l.nx Z σ H ρ f q
theorem vs_cons (h1 : VSt X b W st g) (h2 : VSs X b W sts h) : VSs X b W (st :: sts) (sSeq g h) :=
  pss_mono (pss_cons h1 h2) fun D σ H ⟨H0, M, Zo, Z, ρ, De, f, q, l⟩ => ⟨H0, M, Zo, Z, ρ, _, f, q, ⟨fun Z' σ' H' ρ' f' q' => ⟨H0, M, Zo, Z', ρ', De, f', q', l⟩, l.rt, l.bk, l.ct, l.ex⟩⟩
theorem vs_one (h1 : VSt X b W st g) : VSs X b W [st] g := pss_mono (pss_one h1) fun _ _ _ q => q
/-- from here on slot i's object may be shared -/
@[simp] def sFrz (i : Nat) (g : VS) : VS := fun ρ De => g (frz i ρ) De
theorem vs_frz (i : Nat) (h : VSt X b W st g) : VSt X b W st (sFrz i g) := ps_mono h fun D σ H ⟨H0, M, Zo, Z, ρ, De, f, q, l⟩ => by
  obtain ⟨Z', f'⟩ := f.frz i
  exact ⟨H0, M, Zo, Z', _, De, f', q, l⟩
@[simp] def sBrk : VS := fun ρ De => De.bk ρ
@[simp] def sCnt : VS := fun ρ De => De.ct ρ
/-- name = value -/
@[simp] def sSet (i : Nat) (t : VT) : VS := fun ρ De => i < ρ.length ∧ t ρ (fun d => De.nx (ρ.set i (.shr d))) (De.ex ρ)
@[simp] def sSetN (i : Nat) (t : VT) : VS := fun ρ De => i < ρ.length ∧ t ρ (fun d => De.nx (ρ.set i (.own d))) (De.ex ρ)
theorem vs_set {te : TE} (hp : PS X (.Assign [.Name x pos'] e pos) (tAsg te (gName i))) (hm : ∀ σ H Q, LE b W (RE b) t σ H Q → te σ H Q) : VSt X b W (.Assign [.Name x pos'] e pos) (sSet i t) :=
  ps_mono hp fun D σ H ⟨H0, M, Zo, Z, ρ, De, f, ⟨hi, q⟩, l⟩ => hm σ H _ ⟨Zo, Z, ρ, _, _, f.v, q, fun v H' d x g r q' => l.nx _ _ H' _ ((f.ex x g).set hi r) q', l.er f⟩
theorem vs_setN {te : TE} (hp : PS X (.Assign [.Name x pos'] e pos) (tAsg te (gName i))) (hm : ∀ σ H Q, LE b W (RN b) t σ H Q → te σ H Q) : VSt X b W (.Assign [.Name x pos'] e pos) (sSetN i t) :=
  ps_mono hp fun D σ H ⟨H0, M, Zo, Z, ρ, De, f, ⟨hi, q⟩, l⟩ => hm σ H _ ⟨Zo, Z, ρ, _, _, f.v, q, fun v H' d x g r q' => by
    obtain ⟨Z', f'⟩ := f.setN hi x g r
    exact l.nx _ _ H' _ f' q', l.er f⟩
theorem vs_asg (hN : X.N.Nodup) (hi : X.N[i]? = some x) (hx : Loc X.env.scope x) (he : VE X b W e t) (hs : swapsWith e (some (.Name x pos')) pos.line X.env = pure false := by rfl)
    (hf : X.fn x = true ∨ X.env.scope.names.lookup x = some .local := by first | exact .inl rfl | exact .inr rfl | assumption) : VSt X b W (.Assign [.Name x pos'] e pos) (sSet i t) :=
  vs_set (ps_set hN hi hx he hs hf) fun _ _ _ q => q
theorem vs_asgN (hN : X.N.Nodup) (hi : X.N[i]? = some x) (hx : Loc X.env.scope x) (he : VN X b W e t) (hs : swapsWith e (some (.Name x pos')) pos.line X.env = pure false := by rfl)
    (hf : X.fn x = true ∨ X.env.scope.names.lookup x = some .local := by first | exact .inl rfl | exact .inr rfl | assumption) : VSt X b W (.Assign [.Name x pos'] e pos) (sSetN i t) :=
  vs_setN (ps_set hN hi hx he hs hf) fun _ _ _ q => q
@[simp] def sExpr (t : VT) : VS := fun ρ De => t ρ (fun _ => De.nx ρ) (De.ex ρ)
theorem vs_expr (he : VE X b W e t) (hs : swapsWith e none pos.line X.env = pure false := by rfl) : VSt X b W (.Expr e pos) (sExpr t) :=
  ps_mono (ps_expr he hs) fun D σ H ⟨H0, M, Zo, Z, ρ, De, f, q, l⟩ => ⟨Zo, Z, ρ, _, _, f.v, q, fun v H' d x g r q' => l.nx _ _ H' _ (f.ex x g) q', l.er f⟩
@[simp] def sRet (t : VT) : VS := fun ρ De => t ρ De.rt (De.ex ρ)
theorem vs_ret (he : VE X b W e t) : VSt X b W (.Return (some e) pos) (sRet t) :=
  ps_mono (ps_ret he) fun D σ H ⟨H0, M, Zo, Z, ρ, De, f, q, l⟩ => ⟨Zo, Z, ρ, _, _, f.v, q, fun v H' d x g r q' => l.rt v H' d (f.ex x g).ext g ((f.ex x g).out r) q', l.er f⟩
@[simp] def sRetN : VS := fun _ De => De.rt (.py .none)
@[simp] def sIf (c : VB) (g h : VS) : VS := fun ρ De => c ρ (fun k => if k = true then g ρ De else h ρ De) (De.ex ρ)
theorem vs_if {c : Expr} {tc : VB} {xs ys : List Stmt} (hc : VTe X b W c tc) (h1 : VSs X b W xs g) (h2 : VSs X b W ys h) : VSt X b W (.If c xs ys pos) (sIf tc g h) :=
  ps_mono (ps_if hc h1 h2) fun D σ H ⟨H0, M, Zo, Z, ρ, De, f, q, l⟩ => ⟨Zo, Z, ρ, _, _, f.v, q, fun k H' x g q' => by
    cases k with
    | true => exact ⟨H0, M, Zo, Z, ρ, De, f.ex x g, q', l⟩
    | false => exact ⟨H0, M, Zo, Z, ρ, De, f.ex x g, q', l⟩, l.er f⟩
/-- name op= value -/
@[simp] def sAug (i : Nat) (g : D → D → (D → Prop) → Prop) (t : VT) : VS := fun ρ De => ∃ d, ρ[i]? = some (.shr d) ∧ t ρ (fun y => g d y fun z => De.nx (ρ.set i (.shr z))) (De.ex ρ)
/-! ### loops -/
/-- what an iterator gives: the items, one a turn, while what stood at H outside of Y stands -/
structure Wk (b : Bg) (Y Z : Addr → Prop) (H : Hp) (J : It) (ds : List D) : Prop where
  go : ∀ (k : Nat) (d : D) (H2 : Hp), ds[k]? = some d → (∀ a o, H a = some o → ¬ Y a → H2 a = some o) → b.G H2 → J.go k H2 ∧ ∀ v H3, J.yld k H2 v H3 → Ex b H2 H3 ∧ b.G H3 ∧ ∀ Z2 : Addr → Prop, (∀ a, Z2 a → Z a ∨ H a = none) → (∀ a, Z2 a → H2 a ≠ none) → Rp b Z2 H3 v d
  stop : ∀ (k : Nat) (H2 : Hp), ds.length = k → (∀ a o, H a = some o → ¬ Y a → H2 a = some o) → J.stop k H2
abbrev VIt := VEnv → (List D → Prop) → (Er → Prop) → Prop
def LI (b : Bg) (W : WX) (Y : (Addr → Prop) → Addr → Prop) (t : VIt) : TI := fun σ H R => ∃ Zo Z ρ Qd Ed, VOk b Zo Z σ H ρ ∧ t ρ Qd Ed ∧
  (∀ J H' ds, Ex b H H' → b.G H' → Wk b (Y Z) Z H' J ds → Qd ds → R J H') ∧ ∀ c x H' er, Ex b H H' → b.G H' → ErRp b Z H' c x er → Ed er → W c x σ H'
/-- for a loop: what is owned may change; for a block: nothing but the zone -/
def VI (X : Cx) (b : Bg) (W : WX) (tg iter : Expr) (t : VIt) : Prop := PI X tg iter (LI b W (fun Z => Z) t)
def VIb (X : Cx) (b : Bg) (W : WX) (tg iter : Expr) (t : VIt) : Prop := PI X tg iter (LI b W (fun _ => b.B) t)
/-- a target -/
abbrev VTg := D → VEnv → (VEnv → Prop) → Prop
abbrev VTgs := List D → VEnv → (VEnv → Prop) → Prop
/-- the slots but those at js are as they were -/
structure Same (js : List Nat) (σ σ' : L2.St) (ρ ρ' : VEnv) : Prop where
  len : σ'.length = σ.length
  out : ∀ j, j ∉ js → σ'[j]? = σ[j]?
  env : ∀ j, j ∉ js → ρ'[j]? = ρ[j]?
theorem Same.refl {js : List Nat} {σ : L2.St} {ρ : VEnv} : Same js σ σ ρ ρ := ⟨rfl, fun _ _ => rfl, fun _ _ => rfl⟩
theorem Same.trans {js ks : List Nat} {σ σ1 σ2 : L2.St} {ρ ρ1 ρ2 : VEnv} (h : Same js σ σ1 ρ ρ1) (k : Same ks σ1 σ2 ρ1 ρ2) : Same (js ++ ks) σ σ2 ρ ρ2 :=
  ⟨k.len.trans h.len, fun j hj => (k.out j fun m => hj (List.mem_append_right _ m)).trans (h.out j fun m => hj (List.mem_append_left _ m)), fun j hj => (k.env j fun m => hj (List.mem_append_right _ m)).trans (h.env j fun m => hj (List.mem_append_left _ m))⟩
def LG (b : Bg) (js : List Nat) (t : VTg) : TG := fun v σ H Q => ∃ H0 M Zo Z ρ d Qd, FOk b H0 M Zo Z σ H ρ ∧ Rp b Z H v d ∧ t d ρ Qd ∧ ∀ Z' σ' ρ', (∀ a, Z' a → Z a) → Same js σ σ' ρ ρ' → FOk b H0 M Zo Z' σ' H ρ' → Qd ρ' → Q σ' H
def VG (X : Cx) (b : Bg) (tg : Expr) (js : List Nat) (t : VTg) : Prop := PG X tg (LG b js t)
theorem pg_mono {e : Expr} {t t' : TG} (h : PG X e t) (m : ∀ v σ H Q, t' v σ H Q → t v σ H Q) : PG X e t' := ⟨fun pins s σ H v u Q I r q => h.run pins s σ H v u Q I r (m v σ H Q q)⟩
@[simp] def tgName (i : Nat) : VTg := fun d ρ Q => i < ρ.length ∧ Q (ρ.set i (.shr d))
theorem vg_name (hN : X.N.Nodup) (hi : X.N[i]? = some x) (hx : Loc X.env.scope x) (hf : X.fn x = true ∨ X.env.scope.names.lookup x = some .local := by first | exact .inl rfl | exact .inr rfl | assumption) : VG X b (.Name x pos) [i] (tgName i) :=
  pg_mono (pg_name hN hi hx hf) fun v σ H Q ⟨H0, M, Zo, Z, ρ, d, Qd, f, r, ⟨hl, q⟩, k⟩ => k _ _ _ (f.v.but i) ⟨List.length_set .., fun j hj => List.getElem?_set_ne fun e => hj (by rw [e]; exact List.mem_singleton.mpr rfl), fun j hj => List.getElem?_set_ne fun e => hj (by rw [e]; exact List.mem_singleton.mpr rfl)⟩ (f.set hl r) q
/-- several targets -/
def LGs (b : Bg) (js : List Nat) (t : VTgs) : TGs := fun v σ H Q => ∃ H0 M Zo Z ρ d Qd, FOk b H0 M Zo Z σ H ρ ∧ Rps b Z H v d ∧ t d ρ Qd ∧ ∀ Z' σ' ρ', (∀ a, Z' a → Z a) → Same js σ σ' ρ ρ' → FOk b H0 M Zo Z' σ' H ρ' → Qd ρ' → Q σ' H
def VGs (X : Cx) (b : Bg) (tg : List Expr) (js : List Nat) (t : VTgs) : Prop := PGs X tg (LGs b js t)
theorem pgs_mono {e : List Expr} {t t' : TGs} (h : PGs X e t) (m : ∀ v σ H Q, t' v σ H Q → t v σ H Q) : PGs X e t' := ⟨fun pins s σ H v u Q I r q => h.run pins s σ H v u Q I r (m v σ H Q q)⟩
@[simp] def tgNil : VTgs
  | [], ρ, Q => Q ρ
  | _, _, _ => False
@[simp] def tgCons (t : VTg) (u : VTgs) : VTgs
  | d :: r, ρ, Q => t d ρ fun ρ' => u r ρ' Q
  | _, _, _ => False
theorem vgs_nil : VGs X b [] [] tgNil := pgs_mono pgs_nil fun v σ H Q ⟨H0, M, Zo, Z, ρ, d, Qd, f, r, q, k⟩ => by
  cases r with
  | nil => exact ⟨rfl, k Z σ ρ (fun _ z => z) .refl f q⟩
  | cons _ _ => exact False.elim q
theorem vgs_cons {tg : Expr} {tgs : List Expr} {js ks : List Nat} {t : VTg} {u : VTgs} (h1 : VG X b tg js t) (h2 : VGs X b tgs ks u)
    (hs : (assignEach (tg :: tgs) X.env).map (·.2) = assign tg X.env :: (assignEach tgs X.env).map (·.2) := by rfl) : VGs X b (tg :: tgs) (js ++ ks) (tgCons t u) :=
  pgs_mono (pgs_cons h1 h2 hs) fun v σ H Q ⟨H0, M, Zo, Z, ρ, d, Qd, f, r, q, k⟩ => by
    cases r with
    | nil => exact False.elim q
    | @cons _ d1 _ dr r1 rr => exact ⟨_, _, rfl, H0, M, Zo, Z, ρ, d1, _, f, r1, q, fun Z' σ' ρ' sub sm f' q' => ⟨H0, M, Zo, Z', ρ', dr, Qd, f', rr.mono (fun a z => .inl (sub a z)) (fun _ _ e _ => e), q', fun Z2 σ2 ρ2 sub2 sm2 f2 q2 => k Z2 σ2 ρ2 (fun a z => sub a (sub2 a z)) (sm.trans sm2) f2 q2⟩⟩
@[simp] def tgTup (n : Nat) (u : VTgs) : VTg
  | .py (.tuple ps), ρ, Q => ps.length = n ∧ u (ps.map D.py) ρ Q
  | _, _, _ => False
theorem tgTup_ex {n : Nat} {u : VTgs} : ∀ {d : D} {ρ : VEnv} {Q : VEnv → Prop}, tgTup n u d ρ Q → ∃ ps, d = .py (.tuple ps) ∧ ps.length = n ∧ u (ps.map D.py) ρ Q
  | .py (.tuple ps), _, _, h => ⟨ps, rfl, h⟩
theorem vg_tup {tgs : List Expr} {k n : Nat} {js : List Nat} {u : VTgs} (hc : X.calm = true) (h : VGs X b tgs js u) (hn : (assignEach tgs X.env).length = n := by rfl) (hst : (assignEach tgs X.env).findIdx? (·.1) = none := by rfl) : VG X b (.Tuple tgs k pos) js (tgTup n u) :=
  pg_mono (pg_tup hc h hn hst) fun v σ H Q ⟨H0, M, Zo, Z, ρ, d, Qd, f, r, hh, k⟩ => by
    obtain ⟨ps, e, hl, q⟩ := tgTup_ex hh
    subst e
    obtain ⟨a, o, xs, rfl, ha, ho, na, qa⟩ := Rb.tuple (b := b) (.inl r)
    exact ⟨a, xs, rfl, SqT.th ha, by rw [qa.length]; exact hl, H0, M, Zo, Z, ρ, _, Qd, f, qa.to, q, k⟩
/-- target = value -/
@[simp] def sAsg (t : VT) (g : VTg) : VS := fun ρ De => t ρ (fun d => g d ρ De.nx) (De.ex ρ)
theorem vs_asgT {tg : Expr} {js : List Nat} {g : VTg} (he : VE X b W e t) (hg : VG X b tg js g) (hs : swapsWithSole [tg] e pos.line X.env = pure false := by rfl) (hw : swappedStores [tg] e X.env = pure none := by rfl)
    (h1 : (assignEach [tg] X.env).map (·.2) = [assign tg X.env] := by rfl) : VSt X b W (.Assign [tg] e pos) (sAsg t g) :=
  ps_mono (ps_asg he hg hs hw h1) fun D σ H ⟨H0, M, Zo, Z, ρ, De, f, q, l⟩ => ⟨Zo, Z, ρ, _, _, f.v, q, fun v H' d x g r q' =>
    ⟨H0, M, Zo, Z, ρ, d, _, f.ex x g, r, q', fun Z' σ' ρ' _ _ f' q2 => l.nx Z' σ' H' ρ' f' q2⟩, l.er f⟩
end
end VL
set_option Elab.async false
set_option linter.all false
set_option maxRecDepth 100000
set_option maxHeartbeats 4000000
namespace VL
open PySem PySem.Spec PyProof.Rows L2
/-! ### values some of which are new -/
inductive Rm (b : Bg) (Y : Addr → Prop) (H H' : Hp) : List V → List (Bool × D) → List Addr → Prop
  | nil : Rm b Y H H' [] [] []
  | sh {v : V} {d : D} {vs : List V} {ms : List (Bool × D)} {N : List Addr} : Rp b Y H' v d → Rm b Y H H' vs ms N → Rm b Y H H' (v :: vs) ((false, d) :: ms) N
  | nw {a : Addr} {d : D} {vs : List V} {ms : List (Bool × D)} {N : List Addr} : H a = none → a ∉ N → Ow b Y H' a d → Rm b Y H H' vs ms N → Rm b Y H H' (.ref a :: vs) ((true, d) :: ms) (a :: N)
abbrev VAm := VEnv → (List (Bool × D) → Prop) → (Er → Prop) → Prop
def LAm (b : Bg) (W : WX) (t : VAm) : TA := fun σ H Q => ∃ Zo Z ρ Qd Ed, VOk b Zo Z σ H ρ ∧ t ρ Qd Ed ∧
  (∀ vs H' ms N, Ex b H H' → b.G H' → Rm b (fun c => Z c ∨ c ∈ N) H H' vs ms N → Qd ms → Q vs H') ∧ ∀ c x H' er, Ex b H H' → b.G H' → ErRp b Z H' c x er → Ed er → W c x σ H'
def VMs (X : Cx) (b : Bg) (W : WX) (es : List Expr) (t : VAm) : Prop := PA X es (LAm b W t)
@[simp] def mNil : VAm := fun _ Q _ => Q []
@[simp] def mCons (k : Bool) (t : VT) (u : VAm) : VAm := fun ρ Q E => t ρ (fun d => u ρ (fun ds => Q ((k, d) :: ds)) E) E
section
variable {b : Bg} {Y Y' : Addr → Prop} {H H' H1 : Hp} {vs : List V} {ms : List (Bool × D)} {N : List Addr}
theorem Rm.sub (h : ∀ c, Y' c → Y c) : ∀ {vs : List V} {ms : List (Bool × D)} {N : List Addr}, Rm b Y H H' vs ms N → Rm b Y' H H' vs ms N
  | _, _, _, .nil => .nil
  | _, _, _, .sh r t => .sh (r.mono (fun c z => .inl (h c z)) fun _ _ e _ => e) (Rm.sub h t)
  | _, _, _, .nw hn hm o t => .nw hn hm (o.mono (fun c z => .inl (h c z)) (fun _ _ e _ => e) fun _ e => e) (Rm.sub h t)
theorem Rm.back (h : ∀ c, H1 c = none → H c = none) : ∀ {vs : List V} {ms : List (Bool × D)} {N : List Addr}, Rm b Y H1 H' vs ms N → Rm b Y H H' vs ms N
  | _, _, _, .nil => .nil
  | _, _, _, .sh r t => .sh r (Rm.back h t)
  | _, _, _, .nw hn hm o t => .nw (h _ hn) hm o (Rm.back h t)
theorem Rm.new : ∀ {vs : List V} {ms : List (Bool × D)} {N : List Addr}, Rm b Y H H' vs ms N → ∀ c ∈ N, H c = none ∧ H' c ≠ none
  | _, _, _, .nil, _, h => nomatch h
  | _, _, _, .sh _ t, c, h => Rm.new t c h
  | _, _, _, .nw hn _ o t, c, h => by
    rcases List.mem_cons.mp h with rfl | h
    · obtain ⟨u, e⟩ := o.at
      exact ⟨hn, by rw [e]; simp⟩
    · exact Rm.new t c h
theorem none_back (g : b.G H1) (x : Ex b H H1) (c : Addr) (h : H1 c = none) : H c = none := by
  cases q : H c with
  | none => rfl
  | some u =>
    by_cases hb : b.B c
    · exact absurd h (b.dom _ _ g hb)
    · rw [x c u q hb] at h; cases h
end
section
variable {b : Bg} {Zo Z : Addr → Prop} {σ : L2.St} {H H' : Hp} {ρ : VEnv}
/-- new addresses held apart by an outer one -/
theorem VOk.many (v : VOk b Zo Z σ H ρ) (x : Ex b H H') (g : b.G H') {N : List Addr} (hN : ∀ c ∈ N, H c = none ∧ H' c ≠ none) : VOk b (fun c => Zo c ∨ c ∈ N) (fun c => Z c ∨ c ∈ N) σ H' ρ := by
  have v' := v.ex x g
  have hz : ∀ c, (Z c ∨ c ∈ N) → Z c ∨ H c = none := fun c z => z.imp id fun m => (hN c m).1
  refine ⟨g, fun c z => .inl (v.zb c z), fun c z => z.imp (v.zo c) id, fun c z => z.elim (v'.dom c) fun m => (hN c m).2, fun c z => z.elim (fun z => (v.zi c z).imp .inl id) fun m => .inl (.inr m), fun i d e => ?_, v.inj, fun i d e => ?_, v.len⟩
  · obtain ⟨a, h1, h2, h3, h4⟩ := v.own i d e
    refine ⟨a, h1, .inl h2, fun z => z.elim h3 fun m => v.dom a h2 (hN a m).1, h4.mono hz (v.keep x) fun o q => x a o q fun z => h3 (v.zb a z)⟩
  · obtain ⟨u, h1, h2⟩ := v.shr i d e
    exact ⟨u, h1, h2.mono hz (v.keep x)⟩
end
section
variable {X : Cx} {b : Bg} {W : WX} {e e1 e2 : Expr} {es : List Expr} {t t1 t2 : VT} {u : VAm} {pos : Pos}
theorem vm_nil : VMs X b W [] mNil := pa_mono pa_nil fun σ H Q ⟨Zo, Z, ρ, Qd, Ed, v, q, l, _⟩ => l [] H [] [] Ex.refl v.g .nil q
theorem vm_sh (h : VE X b W e t) (k : VMs X b W es u) (hs : starEach (e :: es) X.env = (false, eval e X.env) :: starEach es X.env := by rfl) : VMs X b W (e :: es) (mCons false t u) :=
  pa_mono (pa_cons h k hs) fun σ H Q ⟨Zo, Z, ρ, Qd, Ed, v, q, l, m⟩ => ⟨Zo, Z, ρ, _, Ed, v, q, fun x H1 d x1 g1 r1 q1 =>
    ⟨Zo, Z, ρ, _, Ed, v.ex x1 g1, q1, fun xs H2 ms N x2 g2 r2 q2 => l (x :: xs) H2 ((false, d) :: ms) N (x1.trans x2) g2
        (.sh (r1.mono (fun c z => z.imp id fun m => (r2.new c m).1) ((v.ex x1 g1).keep x2)) (r2.back (none_back g1 x1))) q2,
      fun c y H2 er x2 g2 r2 q2 => m c y H2 er (x1.trans x2) g2 r2 q2⟩, m⟩
theorem vm_nw (h : VN X b W e t) (k : VMs X b W es u) (hs : starEach (e :: es) X.env = (false, eval e X.env) :: starEach es X.env := by rfl) : VMs X b W (e :: es) (mCons true t u) :=
  pa_mono (pa_cons h k hs) fun σ H Q ⟨Zo, Z, ρ, Qd, Ed, v, q, l, m⟩ => ⟨Zo, Z, ρ, _, Ed, v, q, fun x H1 d x1 g1 ⟨a, ex, hn, o⟩ q1 => by
    subst ex
    obtain ⟨oa, ea⟩ := o.at
    have h1 : H1 a ≠ none := by rw [ea]; simp
    have nb : ¬ b.B a := fun z => v.fresh hn (v.zo a (v.zb a z))
    have v1 := v.many x1 g1 (N := [a]) fun c hc => by rw [List.mem_singleton.mp hc]; exact ⟨hn, h1⟩
    refine ⟨_, _, ρ, _, Ed, v1, q1, fun xs H2 ms N x2 g2 r2 q2 => ?_, fun c y H2 er x2 g2 r2 q2 => m c y H2 er (x1.trans x2) g2 ?_ q2⟩
    · have hN : a ∉ N := fun hm => h1 (r2.new a hm).1
      refine l (.ref a :: xs) H2 ((true, d) :: ms) (a :: N) (x1.trans x2) g2 (.nw hn hN ?_ ((r2.sub fun c z => ?_).back (none_back g1 x1))) q2
      · refine o.mono (fun c z => ?_) (fun c oc ec nc => x2 c oc ec fun z => nc (.inl (v.zo c (v.zb c z)))) fun oc ec => x2 a oc ec nb
        rcases z with z | z
        · exact .inl (.inl z)
        · rcases List.mem_cons.mp z with rfl | z
          · exact .inl (.inr rfl)
          · exact .inr (r2.new c z).1
      · rcases z with z | z
        · exact .inl (.inl z)
        · rcases List.mem_cons.mp z with rfl | z
          · exact .inl (.inr (List.mem_singleton.mpr rfl))
          · exact .inr z
    · obtain ⟨h3, h4⟩ := r2
      refine ⟨h3, h4.imp id ?_⟩
      rintro ⟨c, ys, e1, e2, e3, e4⟩
      exact ⟨c, ys, e1, e2, fun z => e3 (.inl z), e4.mono (fun c z => .inl (.inl z)) fun _ _ e _ => e⟩, m⟩
end
/-! ### a, b, .. = values -/
def setA : List Nat → List V → L2.St → L2.St
  | i :: is, v :: vs, σ => setA is vs (σ.set i (some v))
  | _, _, σ => σ
@[simp] def setE : List Nat → List (Bool × D) → VEnv → VEnv
  | i :: is, (k, d) :: ms, ρ => setE is ms (ρ.set i (if k = true then .own d else .shr d))
  | _, _, ρ => ρ
section
variable {b : Bg} {W : WX} {H0 : Hp} {M Zo Z : Addr → Prop} {σ : L2.St} {H H' : Hp} {ρ : VEnv} {De : VEnds} {Dn : Ends}
theorem FOk.many (f : FOk b H0 M Zo Z σ H ρ) (x : Ex b H H') (g : b.G H') {N : List Addr} (hN : ∀ c ∈ N, H c = none ∧ H' c ≠ none) : FOk b H0 M (fun c => Zo c ∨ c ∈ N) (fun c => Z c ∨ c ∈ N) σ H' ρ :=
  ⟨f.v.many x g hN, fun a o e nb nm => x a o (f.ext a o e nb nm) nb, f.fr⟩
/-- an address held apart becomes slot i's own -/
theorem FOk.adopt {a : Addr} {N : List Addr} {d : D} {i : Nat} (f : FOk b H0 M (fun c => Zo c ∨ c ∈ a :: N) Z σ H ρ) (hzb : ∀ c, b.B c → Zo c) (hN : a ∉ N) (hz : ¬ Zo a) (hf : M a ∨ H0 a = none) (hi : i < ρ.length) (o : Ow b Z H a d) :
    ∃ Z', FOk b H0 M (fun c => Zo c ∨ c ∈ N) Z' (σ.set i (some (.ref a))) H (ρ.set i (.own d)) ∧ ∀ c, Z' c → Z c := by
  have v := f.v
  have hiσ : i < σ.length := by rw [← v.len]; exact hi
  have hza : Z a := v.zo a (.inr List.mem_cons_self)
  have low : ∀ c, (Zo c ∨ c ∈ N) → (Zo c ∨ c ∈ a :: N) := fun c z => z.imp id (List.mem_cons_of_mem _)
  let Z' : Addr → Prop := fun c => (zBut (fun c => Zo c ∨ c ∈ N) σ ρ i c) ∨ c = a
  have sub : ∀ c, Z' c → Z c := fun c z => by
    rcases z with (z | ⟨j, e, _, h1, h2⟩) | rfl
    · exact v.zo c (low c z)
    · obtain ⟨c', h3, h4, _⟩ := v.own j e h1
      rw [h2] at h3; cases h3; exact h4
    · exact hza
  have na : ∀ (j : Nat) (e : D) (c : Addr), ρ[j]? = some (.own e) → σ[j]? = some (some (.ref c)) → c ≠ a := fun j e c h1 h2 q => by
    obtain ⟨c', h3, _, h4, _⟩ := v.own j e h1
    rw [h2] at h3; cases h3; rw [q] at h4
    exact h4 (.inr List.mem_cons_self)
  have ow : ∀ {j : Nat} {e : D}, (ρ.set i (.own d))[j]? = some (.own e) → (j = i ∧ e = d) ∨ (j ≠ i ∧ ρ[j]? = some (.own e)) := fun {j e} h => by
    by_cases hj : j = i
    · subst hj
      rw [List.getElem?_set_self hi] at h; cases h; exact .inl ⟨rfl, rfl⟩
    · rw [List.getElem?_set_ne (Ne.symm hj)] at h
      exact .inr ⟨hj, h⟩
  refine ⟨Z', ⟨⟨v.g, fun c z => .inl (hzb c z), fun c z => .inl (.inl z), fun c z => v.dom c (sub c z), fun c z => ?_, fun j e h => ?_, fun j k e e2 c h1 h2 h3 h4 => ?_, fun j e h => ?_, by simpa using v.len⟩, f.ext, fun j e c h1 h2 => ?_⟩, sub⟩
  · rcases z with (z | ⟨j, e, hj, h1, h2⟩) | rfl
    · exact .inl z
    · exact .inr ⟨j, e, by rw [List.getElem?_set_ne (Ne.symm hj)]; exact h1, by rw [List.getElem?_set_ne (Ne.symm hj)]; exact h2⟩
    · exact .inr ⟨i, d, List.getElem?_set_self hi, List.getElem?_set_self hiσ⟩
  · rcases ow h with ⟨q1, q2⟩ | ⟨hj, p1⟩
    · rw [q1, q2]
      exact ⟨a, List.getElem?_set_self hiσ, .inr rfl, fun z => z.elim hz hN, o.mono (fun c z => .inl (sub c z)) (fun _ _ e _ => e) fun _ e => e⟩
    · obtain ⟨c, h1, h2, h3, h4⟩ := v.own j e p1
      exact ⟨c, by rw [List.getElem?_set_ne (Ne.symm hj)]; exact h1, .inl (.inr ⟨j, e, hj, p1, h1⟩), fun z => h3 (low c z), h4.mono (fun c z => .inl (sub c z)) (fun _ _ e _ => e) fun _ e => e⟩
  · rcases ow h1 with ⟨q1, _⟩ | ⟨hj, p1⟩
    · rcases ow h2 with ⟨q2, _⟩ | ⟨hk, p2⟩
      · rw [q1, q2]
      · rw [q1, List.getElem?_set_self hiσ] at h3; cases h3
        rw [List.getElem?_set_ne (Ne.symm hk)] at h4
        exact absurd rfl (na k e2 _ p2 h4)
    · rw [List.getElem?_set_ne (Ne.symm hj)] at h3
      rcases ow h2 with ⟨q2, _⟩ | ⟨hk, p2⟩
      · rw [q2, List.getElem?_set_self hiσ] at h4; cases h4
        exact absurd rfl (na j e _ p1 h3)
      · rw [List.getElem?_set_ne (Ne.symm hk)] at h4
        exact v.inj j k e e2 c p1 p2 h3 h4
  · by_cases hj : j = i
    · rw [hj, List.getElem?_set_self hi] at h; cases h
    · rw [List.getElem?_set_ne (Ne.symm hj)] at h
      obtain ⟨w, h1, h2⟩ := v.shr j e h
      exact ⟨w, by rw [List.getElem?_set_ne (Ne.symm hj)]; exact h1, h2.mono (fun c z => .inl (sub c z)) fun _ _ e _ => e⟩
  · rcases ow h1 with ⟨q1, _⟩ | ⟨hj, p1⟩
    · rw [q1, List.getElem?_set_self hiσ] at h2; cases h2
      exact hf
    · rw [List.getElem?_set_ne (Ne.symm hj)] at h2
      exact f.fr j e c p1 h2
/-- all of them, one after another -/
theorem FOk.setAll (hb : ∀ c, b.B c → Zo c) : ∀ (is : List Nat) (vs : List V) (ms : List (Bool × D)) (N : List Addr) (Z : Addr → Prop) (σ : L2.St) (ρ : VEnv), FOk b H0 M (fun c => Zo c ∨ c ∈ N) Z σ H' ρ → Rm b Z H H' vs ms N → (∀ c ∈ N, ¬ Zo c ∧ (M c ∨ H0 c = none)) →
    ms.length = is.length → (∀ i ∈ is, i < ρ.length) → ∃ Z', FOk b H0 M Zo Z' (VL.setA is vs σ) H' (setE is ms ρ) := by
  intro is
  induction is with
  | nil =>
    intro vs ms N Z σ ρ f r hN hl hi
    cases r with
    | nil =>
      refine ⟨Z, ?_⟩
      have e : (fun c => Zo c ∨ c ∈ ([] : List Addr)) = Zo := by funext c; simp
      rw [e] at f
      exact f
    | sh _ _ => simp at hl
    | nw _ _ _ _ => simp at hl
  | cons i is ih =>
    intro vs ms N Z σ ρ f r hN hl hi
    cases r with
    | nil => simp at hl
    | sh r t =>
      have f1 := f.set (hi i List.mem_cons_self) r
      exact ih _ _ _ _ _ _ f1 (t.sub (f.v.but i)) hN (by simpa using hl) fun j hj => by rw [List.length_set]; exact hi j (List.mem_cons_of_mem _ hj)
    | nw hn hm o t =>
      obtain ⟨Z1, f1, sub⟩ := f.adopt hb hm (hN _ List.mem_cons_self).1 (hN _ List.mem_cons_self).2 (hi i List.mem_cons_self) o
      exact ih _ _ _ _ _ _ f1 (t.sub sub) (fun c hc => hN c (List.mem_cons_of_mem _ hc)) (by simpa using hl) fun j hj => by rw [List.length_set]; exact hi j (List.mem_cons_of_mem _ hj)
theorem FOk.par (f : FOk b H0 M Zo Z σ H ρ) {is : List Nat} {vs : List V} {ms : List (Bool × D)} {N : List Addr} (x : Ex b H H') (g : b.G H') (r : Rm b (fun c => Z c ∨ c ∈ N) H H' vs ms N) (hl : ms.length = is.length) (hi : ∀ i ∈ is, i < ρ.length) : ∃ Z', FOk b H0 M Zo Z' (VL.setA is vs σ) H' (setE is ms ρ) := by
  refine FOk.setAll f.v.zb is vs ms N _ σ ρ (f.many x g r.new) r (fun c hc => ⟨fun z => f.v.dom c (f.v.zo c z) (r.new c hc).1, ?_⟩) hl hi
  have hn := (r.new c hc).1
  cases q : H0 c with
  | none => exact .inr rfl
  | some u =>
    by_cases hb : b.B c
    · exact absurd hn (b.dom _ _ f.v.g hb)
    · by_cases hm : M c
      · exact .inl hm
      · have := f.ext c u q hb hm
        rw [hn] at this; cases this
end
section
variable {X : Cx} {b : Bg} {W : WX} {e e1 e2 e3 : Expr} {es : List Expr} {t t1 t2 : VT} {u : VAm} {pos : Pos}
@[simp] def sPar (is : List Nat) (u : VAm) : VS := fun ρ De => (∀ i ∈ is, i < ρ.length) ∧ u ρ (fun ms => ms.length = is.length ∧ De.nx (setE is ms ρ)) (De.ex ρ)
theorem Rm.len {Y : Addr → Prop} {H H' : Hp} : ∀ {vs : List V} {ms : List (Bool × D)} {N : List Addr}, Rm b Y H H' vs ms N → vs.length = ms.length
  | _, _, _, .nil => rfl
  | _, _, _, .sh _ t => congrArg (· + 1) (Rm.len t)
  | _, _, _, .nw _ _ _ t => congrArg (· + 1) (Rm.len t)
theorem vs_par2 {i j : Nat} {x y : Str} {px py pt : Pos} {kt k2 pt2} (hc : X.calm = true) (hN : X.N.Nodup) (hi : X.N[i]? = some x) (hj : X.N[j]? = some y) (hij : i ≠ j)
    (hx : X.env.scope.names.lookup x = some .local) (hy : X.env.scope.names.lookup y = some .local) (ha : VMs X b W [e1, e2] u)
    (hw : swappedStores [.Tuple [.Name x px, .Name y py] kt pt] (.Tuple [e1, e2] k2 pt2) X.env = pure (some [x, y]))
    (hs : swapsWithSole [.Tuple [.Name x px, .Name y py] kt pt] (.Tuple [e1, e2] k2 pt2) pos.line X.env = pure false := by rfl) :
    VSt X b W (.Assign [.Tuple [.Name x px, .Name y py] kt pt] (.Tuple [e1, e2] k2 pt2) pos) (sPar [i, j] u) :=
  ps_mono (ps_par hc hN hi hj hij hx hy ha hw hs) fun D σ H ⟨H0, M, Zo, Z, ρ, De, f, ⟨hl, q⟩, l⟩ => ⟨Zo, Z, ρ, _, _, f.v, q, fun vs H' ms N x g r ⟨hm, q'⟩ => by
    obtain ⟨Z', f'⟩ := f.par (is := [i, j]) x g r hm hl
    match vs, r.len.trans hm with
    | [v, w], _ => exact ⟨v, w, rfl, l.nx Z' _ H' _ f' q'⟩, l.er f⟩
theorem vs_par3 {i j k : Nat} {x y z : Str} {px py pz pt : Pos} {kt k2 pt2} (hc : X.calm = true) (hN : X.N.Nodup) (hi : X.N[i]? = some x) (hj : X.N[j]? = some y) (hk : X.N[k]? = some z) (hij : i ≠ j) (hik : i ≠ k) (hjk : j ≠ k)
    (hx : X.env.scope.names.lookup x = some .local) (hy : X.env.scope.names.lookup y = some .local) (hz : X.env.scope.names.lookup z = some .local) (ha : VMs X b W [e1, e2, e3] u)
    (hw : swappedStores [.Tuple [.Name x px, .Name y py, .Name z pz] kt pt] (.Tuple [e1, e2, e3] k2 pt2) X.env = pure (some [x, y, z]))
    (hs : swapsWithSole [.Tuple [.Name x px, .Name y py, .Name z pz] kt pt] (.Tuple [e1, e2, e3] k2 pt2) pos.line X.env = pure false := by rfl) :
    VSt X b W (.Assign [.Tuple [.Name x px, .Name y py, .Name z pz] kt pt] (.Tuple [e1, e2, e3] k2 pt2) pos) (sPar [i, j, k] u) :=
  ps_mono (ps_par3 hc hN hi hj hk hij hik hjk hx hy hz ha hw hs) fun D σ H ⟨H0, M, Zo, Z, ρ, De, f, ⟨hl, q⟩, l⟩ => ⟨Zo, Z, ρ, _, _, f.v, q, fun vs H' ms N x g r ⟨hm, q'⟩ => by
    obtain ⟨Z', f'⟩ := f.par (is := [i, j, k]) x g r hm hl
    match vs, r.len.trans hm with
    | [v, w, y], _ => exact ⟨v, w, y, rfl, l.nx Z' _ H' _ f' q'⟩, l.er f⟩
/-- the targets' reading: names -/
def gNames : List Nat → TGs
  | [] => gNil
  | i :: is => gCons (gName i) (gNames is)
theorem gNames_set : ∀ {is : List Nat} {vs : List V} {σ : L2.St} {H : Hp} {Q : L2.St → Hp → Prop}, vs.length = is.length → Q (VL.setA is vs σ) H → gNames is vs σ H Q
  | [], [], _, _, _, _, q => ⟨rfl, q⟩
  | i :: is, v :: vs, σ, H, Q, h, q => ⟨v, vs, rfl, gNames_set (by simpa using h) q⟩
/-- by way of a tuple -/
theorem vs_parT {is : List Nat} {tgs : List Expr} {kt k2} {pt pt2 : Pos} (hc : X.calm = true) (hg : PGs X tgs (gNames is)) (ha : VMs X b W es u) (hn : (assignEach tgs X.env).length = is.length := by rfl) (hst : (assignEach tgs X.env).findIdx? (·.1) = none := by rfl)
    (hz : is.length ≤ 1000 := by decide) (hs : swapsWithSole [.Tuple tgs kt pt] (.Tuple es k2 pt2) pos.line X.env = pure false := by rfl) (hw : swappedStores [.Tuple tgs kt pt] (.Tuple es k2 pt2) X.env = pure none := by rfl)
    (h1 : (assignEach [.Tuple tgs kt pt] X.env).map (·.2) = [assign (.Tuple tgs kt pt) X.env] := by rfl) :
    VSt X b W (.Assign [.Tuple tgs kt pt] (.Tuple es k2 pt2) pos) (sPar is u) :=
  ps_mono (ps_asg (pe_tupF ha) (pg_tup hc hg hn hst) hs hw h1) fun D σ H ⟨H0, M, Zo, Z, ρ, De, f, ⟨hl, q⟩, l⟩ => ⟨Zo, Z, ρ, _, _, f.v, q, fun vs H' ms N x g r ⟨hm, q'⟩ => by
    obtain ⟨Z', f'⟩ := f.par (is := is) x g r hm hl
    have hv : vs.length = is.length := r.len.trans hm
    refine ⟨Nat.le_of_lt (small1000 (by rw [hv]; exact hz)), fun p o hp ho => ⟨p, vs, rfl, SqT.th upd_same, hv, gNames_set hv ?_⟩⟩
    exact l.nx Z' _ _ _ (f'.ex (Ex.new hp) (Bg.new g hp)) q', l.er f⟩
end
end VL
set_option Elab.async false
set_option linter.all false
set_option maxRecDepth 100000
set_option maxHeartbeats 4000000
namespace VL
open PySem PySem.Spec PyProof.Rows L2
/-! ### sources: a list, a tuple, a text -/
inductive Kd where
  | l (a : Addr) | t (a : Addr) | s (x : Str) (k : Tok)
def Kd.val : Kd → Value
  | .l a => .ref a | .t a => .ref a | .s x k => .str x k
def Kd.obj : Kd → Obj
  | .l a => { cls := .type "list_iterator", data := .fields #[.ref a, .int 0 0] }
  | .t a => { cls := .type "tuple_iterator", data := .fields #[.ref a, .int 0 0] }
  | .s x k => { cls := .type (strIterType x), data := .fields #[.str x k, .int 0 0] }
/-- the walker at it stands at item i -/
def Kd.At : Kd → Addr → Nat → Heap → Prop
  | .l a, it, i, h => h.IsListIter it a i
  | .t a, it, i, h => h.IsTupleIter it a i
  | .s x k, it, i, h => h.IsStrIter it (strIterType x) x k i
def Kd.ad : Kd → List Addr
  | .l a => [a] | .t a => [a] | .s _ _ => []
def signs (x : Str) : List V := x.cps.toList.map fun c => V.str (mkS [c])
def Kd.gives (K : PySem.W.Frag) (H : Hp) : Kd → List V → Prop
  | .l a, xs => SqL K H a xs
  | .t a, xs => SqT K H a xs
  | .s x _, xs => xs = signs x
theorem Kd.begins {X : Cx} {pins : List (Addr × Obj)} {σ : L2.St} {H : Hp} {s : Shared} (I : Inv X pins σ H s) {k : Kd} {xs : List V} (g : k.gives X.K H xs) : ∃ Hs, Begins k.val k.obj Hs ∧ Hs s.heap ∧ ∀ b ∈ k.ad, b < s.heap.objs.size := by
  cases k with
  | l a =>
    obtain ⟨its, _, p, _⟩ := I.list g
    exact ⟨_, begins_list a its.toArray, p.isList, fun b hb => by rw [List.mem_singleton.mp hb]; exact p.lt⟩
  | t a =>
    obtain ⟨its, _, p, _⟩ := I.tuple g
    obtain ⟨o, ho, _⟩ := id p
    exact ⟨_, begins_tuple a its.toArray, p, fun b hb => by rw [List.mem_singleton.mp hb]; exact Heap.lt_size ho⟩
  | s x t => exact ⟨_, begins_text x t, trivial, fun b hb => by cases hb⟩
theorem Kd.start {k : Kd} {it : Addr} {h : Heap} (e : h.get? it = some k.obj) : k.At it 0 h := by
  cases k with
  | l a => exact ⟨_, e, rfl, rfl⟩
  | t a => exact ⟨_, e, rfl, rfl⟩
  | s x t => exact ⟨_, e, rfl, rfl⟩
theorem Kd.At.at {k : Kd} {it : Addr} {i : Nat} {h h' : Heap} (st : k.At it i h) (e : ∀ o, h.get? it = some o → h'.get? it = some o) : k.At it i h' := by
  cases k with
  | l a => exact Heap.IsListIter.at st e
  | t a => exact Heap.IsTupleIter.at st e
  | s x t => obtain ⟨o, ho, r⟩ := st; exact ⟨o, e o ho, r⟩
theorem Kd.At.rec' {k : Kd} {it : Addr} {i : Nat} {h : Heap} (st : k.At it i h) : ∃ o vs, h.get? it = some o ∧ o.data = .fields vs := by
  cases k with
  | l a => obtain ⟨o, ho, _, hd⟩ := st; exact ⟨o, _, ho, hd⟩
  | t a => obtain ⟨o, ho, _, hd⟩ := st; exact ⟨o, _, ho, hd⟩
  | s x t => obtain ⟨o, ho, _, hd⟩ := st; exact ⟨o, _, ho, hd⟩
theorem signs_get {x : Str} {i : Nat} {c : Nat} (h : x.cps[i]? = some c) : (signs x)[i]? = some (V.str (mkS [c])) := by
  unfold signs
  rw [List.getElem?_map, Array.getElem?_toList, h]
  rfl
theorem vals_at : ∀ {xs : List V} {its : List Value} {i : Nat} {u : Value}, Vals xs its → its[i]? = some u → ∃ y, xs[i]? = some y ∧ RelV y u
  | _, _, _, _, .nil, e => by simp at e
  | _, _, 0, _, .cons r _, e => by simp at e; subst e; exact ⟨_, rfl, r⟩
  | _, _, i + 1, _, .cons _ t, e => by
    obtain ⟨y, h1, h2⟩ := vals_at (i := i) t (by simpa using e)
    exact ⟨y, by simpa using h1, h2⟩
/-- what a source draws -/
theorem Kd.draws {X : Cx} {pins : List (Addr × Obj)} {σ : L2.St} {H : Hp} {s : Shared} (I : Inv X pins σ H s) (hc : X.calm = true) {k : Kd} {xs : List V} (g : k.gives X.K H xs) (it : Addr) (hne : it ∉ k.ad) :
    ∃ (P : Nat → Value → Prop) (St : Nat → Heap → Prop), Draws X.prog X.w X.A.in1 it (it :: k.ad) xs.length P St ∧ (∀ i, k.At it i s.heap → St i s.heap) ∧ (∀ i h, St i h → k.At it i h) ∧ ∀ i v, P i v → ∃ y, xs[i]? = some y ∧ RelV y v := by
  have hh : X.A.in1.handled = none := I.ok.hd hc
  cases k with
  | l a =>
    obtain ⟨its, r, p, _⟩ := I.list g
    have hn : a ≠ it := fun e => hne (by rw [e]; exact List.mem_singleton.mpr rfl)
    have D := Draws.list (prog := X.prog) (w := X.w) (A := X.A.in1) hh it a hn its.toArray
    rw [List.size_toArray, ← r.length] at D
    exact ⟨_, _, D, fun i st => ⟨st, p.isList⟩, fun i h st => st.1, fun i v hv => vals_at r (by simpa using hv)⟩
  | t a =>
    obtain ⟨its, r, p, _⟩ := I.tuple g
    have hn : a ≠ it := fun e => hne (by rw [e]; exact List.mem_singleton.mpr rfl)
    have D := Draws.tuple (prog := X.prog) (w := X.w) (A := X.A.in1) hh it a hn its.toArray
    rw [List.size_toArray, ← r.length] at D
    exact ⟨_, _, D, fun i st => ⟨st, p⟩, fun i h st => st.1, fun i v hv => vals_at r (by simpa using hv)⟩
  | s x t =>
    obtain rfl : xs = signs x := g
    have D := Draws.text (prog := X.prog) (w := X.w) (A := X.A.in1) hh it x t
    have e : (signs x).length = x.cps.size := by unfold signs; simp
    rw [← e] at D
    refine ⟨_, _, D, fun i st => st, fun i h st => st, fun i v hv => ?_⟩
    obtain ⟨c, u, h1, rfl⟩ := hv
    exact ⟨_, signs_get h1, u, rfl⟩
theorem Kd.gives_inj {X : Cx} {pins : List (Addr × Obj)} {σ : L2.St} {H : Hp} {s : Shared} (I : Inv X pins σ H s) {k : Kd} {xs ys : List V} (g : k.gives X.K H xs) (g' : k.gives X.K H ys) : xs = ys := by
  cases k with
  | l a => exact I.list_inj g g'
  | t a => exact I.tuple_inj g g'
  | s x t => exact g.trans g'.symm
/-! ### a walk over a source -/
/-- what a walk of items gives -/
def Itk (K : PySem.W.Frag) (k : Kd) : It :=
  ⟨fun i H => ∃ xs x, k.gives K H xs ∧ xs[i]? = some x, fun i H x H' => H' = H ∧ ∀ xs, k.gives K H xs → xs[i]? = some x, fun i H => ∃ xs, k.gives K H xs ∧ xs.length ≤ i⟩
theorem Turn.imp {P : Program} {w : World} {K : PySem.W.Frag} {tg : Expr} {J J' : It} {fp : List Addr} {it : Addr} {tn : Nat → Heap → Prop} (T : Turn P w K tg J fp it tn) (h1 : ∀ i H, J'.go i H → J.go i H) (h2 : ∀ i H x H', J'.go i H → J.yld i H x H' → J'.yld i H x H') (h3 : ∀ i H, J'.stop i H → J.stop i H) : Turn P w K tg J' fp it tn where
  mem := T.mem
  obj := T.obj
  keep := T.keep
  item := fun X hP hw hK hc i pins s σ H E I hf st hg => thn (T.item X hP hw hK hc i pins s σ H E I hf st (h1 i H hg)) fun r s1 ⟨u, hr, q⟩ => ⟨u, hr, thn q fun _ s2 ⟨x, H', I', rx, y, st', f'⟩ => ⟨x, H', I', rx, h2 i H x H' hg y, st', f'⟩⟩
  done := fun X hP hw hK hc i pins s σ H E I hf st hg => T.done X hP hw hK hc i pins s σ H E I hf st (h3 i H hg)
  self := T.self
theorem turn_kd {P : Program} {w : World} {K : PySem.W.Frag} {tg : Expr} (k : Kd) (it : Addr) : Turn P w K tg (Itk K k) [it] it (fun i h => k.At it i h) := by
  cases k with
  | l a => exact Turn.imp (turn_list a it) (fun i H ⟨xs, x, h⟩ => ⟨xs, x, h⟩) (fun i H x H' _ h => h) fun i H h => h
  | t a => exact Turn.imp (turn_tuple a it) (fun i H ⟨xs, x, h⟩ => ⟨xs, x, h⟩) (fun i H x H' _ h => h) fun i H h => h
  | s x t =>
    have e : (signs x).length = x.cps.size := by unfold signs; simp
    refine Turn.imp (turn_str it x t (strIterType x) (by unfold strIterType; split <;> simp)) (fun i H ⟨xs, y, h, hy⟩ => ?_) (fun i H y H' _ h => ?_) fun i H ⟨xs, h, hl⟩ => ?_
    · obtain rfl : xs = signs x := h
      obtain ⟨hlt, _⟩ := List.getElem?_eq_some_iff.mp hy
      rw [e] at hlt
      exact hlt
    · obtain ⟨h1, c, hcx, hy⟩ := h
      refine ⟨h1, fun xs h => ?_⟩
      obtain rfl : xs = signs x := h
      rw [hy]
      exact signs_get hcx
    · obtain rfl : xs = signs x := h
      rw [e] at hl
      exact hl
/-- a source's value -/
inductive Src (K : PySem.W.Frag) (H : Hp) : V → List V → (Kd → Prop) → Prop
  | l {a : Addr} {xs : List V} : SqL K H a xs → Src K H (.ref a) xs fun k => k = .l a
  | t {a : Addr} {xs : List V} : SqT K H a xs → Src K H (.ref a) xs fun k => k = .t a
  | s {x : Str} : Src K H (.str x) (signs x) fun k => ∃ t, k = .s x t
theorem Src.kd {K : PySem.W.Frag} {H : Hp} {v : V} {xs : List V} {C : Kd → Prop} (h : Src K H v xs C) {u : Value} (r : RelV v u) : ∃ k, C k ∧ k.val = u ∧ k.gives K H xs := by
  cases h with
  | l h => cases r; exact ⟨_, rfl, rfl, h⟩
  | t h => cases r; exact ⟨_, rfl, rfl, h⟩
  | s => obtain ⟨t, rfl⟩ := r; exact ⟨_, ⟨t, rfl⟩, rfl, rfl⟩
section
variable {X : Cx} {tg e e2 e3 : Expr} {p pos : Pos}
def iSrc (K : PySem.W.Frag) (te : TE) : TI := fun σ H R => te σ H fun x H1 => ∃ xs C, Src K H1 x xs C ∧ ∀ k, C k → R (Itk K k) H1
theorem pi_src {te : TE} (he : PE X e te) : PI X tg e (iSrc X.K te) := by
  refine ⟨fun pins s σ H R I h => ?_⟩
  refine thn (he.run pins s σ H _ I h) fun v s1 ⟨y, H1, I1, r1, xs, C, sx, q⟩ => ?_
  obtain ⟨k, hk, rfl, g⟩ := sx.kd r1
  obtain ⟨Hs, B, hs, _⟩ := k.begins I1 g
  exact B.iter _ _ _ _ _ _ hs (pi_one (tk := s1.toks) I1 _ (turn_kd k _) (Kd.start (Heap.get?_push_size _ B.free)) (q k hk))
end
/-! ### enumerate -/
def Iek (K : PySem.W.Frag) (k : Kd) : It :=
  ⟨fun i H => ∃ xs x, k.gives K H xs ∧ xs[i]? = some x, fun i H v H' => ∃ T o x, v = .ref T ∧ H T = none ∧ o.dict = none ∧ H' = upd H T (HO.th o [.int (i : Nat), x]) ∧ ∀ xs, k.gives K H xs → xs[i]? = some x, fun i H => ∃ xs, k.gives K H xs ∧ xs.length = i⟩
theorem lt_of_get {h : Heap} {b : Addr} {o : Obj} (e : h.get? b = some o) : b < h.objs.size := Heap.lt_size e
theorem turn_ek {P : Program} {w : World} {K : PySem.W.Frag} {elts : List Expr} {kk : Nat} {tpos : Pos} (k : Kd) {en it : Addr} (hne : en ≠ it) (h1 : en ∉ k.ad) (h2 : it ∉ k.ad) :
    Turn P w K (.Tuple elts kk tpos) (Iek K k) [en, it] en (fun i h => (∃ old, IsEnum h en it ((i : Nat) : Int) old) ∧ k.At it i h) where
  mem := List.mem_cons_self
  obj := fun i h ⟨⟨old, he⟩, hi⟩ b hb => by
    rcases List.mem_cons.mp hb with rfl | hb
    · exact ⟨_, he, nofun⟩
    · rw [List.mem_singleton.mp hb]
      obtain ⟨o, vs, ho, hd⟩ := hi.rec'
      exact ⟨o, ho, fun v q => by rw [hd] at q; cases q⟩
  keep := fun i h h' ⟨⟨old, he⟩, hi⟩ kp => ⟨⟨old, kp en List.mem_cons_self _ he⟩, hi.at fun o q => kp it (by simp) o q⟩
  item := by
    rintro X rfl rfl rfl hc i pins s σ H E I hf ⟨⟨old, he⟩, hi⟩ ⟨xs, x, g, hx⟩
    obtain ⟨Pd, St, D, s1, s2, s3⟩ := k.draws I hc g it h2
    have hlt : i < xs.length := (List.getElem?_eq_some_iff.mp hx).1
    have hel := lt_of_get he
    obtain ⟨oi, vi, hoi, _⟩ := hi.rec'
    have hil := lt_of_get hoi
    refine wpAny_pyNext_enum_itemD D he (s1 i hi) hlt hne (by simp [hne, h1]) fun u h' tk hP ho st' hT hsz hk => ?_
    obtain ⟨y, hy, ru⟩ := s3 i u hP
    obtain rfl : x = y := Option.some.inj (hx.symm.trans hy)
    refine ⟨_, rfl, wpAny_letOwnedTupleGo_enum (s := { s with heap := h', toks := tk + 1 }) ho fun h'' he' sb => ?_⟩
    have hT2 := (sb.2 s.heap.objs.size (Nat.ne_of_gt hel)).trans hT
    have new : ObjOk X.prog X.w (upd H s.heap.objs.size (HO.th (tob [.int i tk, u]) [.int (i : Nat), x])) h'' s.heap.objs.size (HO.th (tob [.int i tk, u]) [.int (i : Nat), x]) :=
      th_ok (by show 2 ≤ sizeLine; decide) (.cons ⟨_, rfl⟩ (.cons ru .nil)) hT2
    have I1 : Inv X pins σ (upd H s.heap.objs.size (HO.th (tob [.int i tk, u]) [.int (i : Nat), x])) { s with heap := h'', toks := tk + 1 } :=
      I.turnedNew (ch := [en, it]) (fun b ob hb q => by
        have n1 : b ≠ en := fun z => hb (by simp [z])
        have n2 : b ≠ it := fun z => hb (by simp [z])
        exact (sb.2 b n1).trans (hk b ob n1 n2 q)) hf (Nat.le_refl _) new
    refine ⟨.ref s.heap.objs.size, _, I1, rfl, ⟨_, _, x, rfl, I.hok.fresh (Nat.le_refl _), rfl, rfl, fun ys hy => by rw [k.gives_inj I hy g]; exact hx⟩, ⟨⟨u, ?_⟩, (s2 _ _ st').at fun o q => (sb.2 it (Ne.symm hne)).trans q⟩, fun b hb => ?_⟩
    · have e1 : ((i + 1 : Nat) : Int) = (i : Int) + 1 := by omega
      rw [e1]; exact he'
    · have hb' : b < s.heap.objs.size := by
        rcases List.mem_cons.mp hb with rfl | hb
        · exact hel
        · rw [List.mem_singleton.mp hb]; exact hil
      rw [upd_ne (Nat.ne_of_lt hb')]
      exact (hf b hb).1
  done := by
    rintro X rfl rfl rfl hc i pins s σ H E I hf ⟨⟨old, he⟩, hi⟩ ⟨xs, g, hl⟩
    obtain ⟨Pd, St, D, s1, s2, s3⟩ := k.draws I hc g it h2
    obtain ⟨f0, f1, f2, f3, f4, f5⟩ := hf it (by simp)
    subst hl
    exact wpAny_pyNext_enum_endD D he (s1 _ hi) fun h' eb => ⟨rfl, I.turned (t' := s.toks) (fun b o hb q => eb b o hb q) f0 f1 f3 f4 f5⟩
  self := fun A i s Q E ⟨⟨_, he⟩, _⟩ h => wpAny_pyIter_enum he h
theorem enum_meets1 {v : Value} {o : Obj} {Hs : Heap → Prop} (B : Begins v o Hs) :
    Meets (Builtin.«enumerate.__new__» ⟨[.type "enumerate", v], []⟩) (fun _ R s => Hs s.heap ∧
      R (.ok (.ret (.ref (s.heap.push o).objs.size))) { s with heap := (s.heap.push o).push { cls := .type "enumerate", data := .fields #[.none, .bool false, .ref s.heap.objs.size, rawInt 0, .none, .none] } }) :=
  .of_wp fun prog w A R s hh => by
    obtain ⟨hp, gn, dr, tk, os⟩ := s
    obtain ⟨hv, h⟩ := hh
    have hsub := sub_enumerate
    have itv : ∀ {A' : Around} {E : Value → Shared → Prop} {Q : Value → Shared → Prop}, Q (.ref hp.objs.size) ⟨hp.push o, gn, dr, tk, os⟩ → wpAny (model prog w) A' (pyIter v) Q E ⟨hp, gn, dr, tk, os⟩ :=
      fun q => B.iter prog w _ _ ⟨hp, gn, dr, tk, os⟩ _ hv q
    wp_walk using itv
    refine wpAny_stack_any fun fr => wpAny_pure ?_
    split
    · rename_i c0 _ _ _ _ _
      cases (c0 == Value.type "enumerate") <;> (wp_walk using itv; exact ⟨_, rfl, h⟩)
    · wp_walk using itv
      exact ⟨_, rfl, h⟩
section
variable {prog : Program} {w : World} {A : Around} {E : Value → Shared → Prop} {s : Shared}
theorem enum_one {v : Value} {o : Obj} {Hs : Heap → Prop} {Q : Value → Shared → Prop} (B : Begins v o Hs) (hv : Hs s.heap)
    (h : ∀ h', IsEnum h' (s.heap.objs.size + 1) s.heap.objs.size 0 .none → h'.get? s.heap.objs.size = some o → (∀ b ob, s.heap.get? b = some ob → h'.get? b = some ob) → Q (.ref (s.heap.objs.size + 1)) { s with heap := h' }) :
    wpAny (model prog w) A (call (.type "enumerate") [v]) Q E s := by
  refine callType_new F.called_enumerate (by decide) (F.typeCall_enumerate_1 _) (F.newCall_enumerate_1 _) (fun obj => F.args_object_init_2 obj _) F.entry_enumerate_new (enum_meets1 B) ⟨hv, ?_⟩
  have z1 : (s.heap.push o).objs.size = s.heap.objs.size + 1 := Heap.size_push ..
  have g1 := Heap.get?_push_size (s.heap.push o) (o := { cls := .type "enumerate", data := .fields #[.none, .bool false, .ref s.heap.objs.size, rawInt 0, .none, .none] }) rfl
  show _ ∧ _
  rw [z1] at g1 ⊢
  exact ⟨⟨_, g1, rfl⟩, h _ g1 (Heap.get?_push_of_some _ (Heap.get?_push_size _ B.free)) fun b ob e => Heap.get?_push_of_some _ (Heap.get?_push_of_some _ e)⟩
end
section
variable {X : Cx} {tg e e2 e3 : Expr} {elts : List Expr} {kk : Nat} {p pos tpos : Pos}
def iEnumS (K : PySem.W.Frag) (ta : TA) : TI := fun σ H R => ta σ H fun vs H1 => ∃ x xs C, vs = [x] ∧ Src K H1 x xs C ∧ ∀ k, C k → R (Iek K k) H1
theorem pi_enumS {ta : TA} (hg : Gl X "enumerate") (hm : X.mg "enumerate" = none) (ha : PA X [e] ta) (hs : starEach [e] X.env = [(false, eval e X.env)] := by rfl) : PI X (.Tuple elts kk tpos) (.Call (.Name "enumerate" p) [e] [] pos) (iEnumS X.K ta) := by
  refine ⟨fun pins s σ H R I h => ?_⟩
  refine Call_ (ld_blt I hg hm boot_enumerate (PyProof.Rows.callWith_type1 (thn (ha.run pos pins s σ H _ I h) fun us s1 ⟨vs, H1, I1, r1, x, xs, C, ev, sx, q⟩ => ?_) hs rfl))
  subst ev
  obtain ⟨u, rfl, ru⟩ := vals1 r1
  obtain ⟨k, hk, rfl, g⟩ := sx.kd ru
  obtain ⟨Hs, B, hst, hlt⟩ := k.begins I1 g
  refine enum_one B hst fun h' he hit kp => wpAny_pyIter_enum he ?_
  have old : ∀ b ∈ k.ad, b ≠ s1.heap.objs.size ∧ b ≠ s1.heap.objs.size + 1 := fun b hb => by
    have z : (b : Nat) < s1.heap.objs.size := hlt b hb
    exact ⟨Nat.ne_of_lt z, Nat.ne_of_lt (Nat.lt_succ_of_lt z)⟩
  refine ⟨s1.heap.objs.size + 1, [s1.heap.objs.size + 1, s1.heap.objs.size], _, _, H1, rfl, I1.kept (t' := s1.toks) kp, turn_ek k (Nat.succ_ne_self _) (fun hm => (old _ hm).2 rfl) (fun hm => (old _ hm).1 rfl), ⟨⟨.none, he⟩, Kd.start hit⟩, fun b hb => ?_, q k hk⟩
  have hle : s1.heap.objs.size ≤ b := by
    rcases List.mem_cons.mp hb with z | z
    · rw [z]; exact Nat.le_succ _
    · rw [List.mem_singleton.mp z]; exact Nat.le_refl _
  exact I1.fpOk hle (I1.hok.fresh hle)
end
end VL
set_option Elab.async false
set_option linter.all false
set_option maxRecDepth 100000
set_option maxHeartbeats 4000000
namespace VL
open PySem PySem.Spec PyProof.Rows L2
/-! ### zip of two, of three sources -/
def Iz2 (K : PySem.W.Frag) (k1 k2 : Kd) : It :=
  ⟨fun i H => ∃ xs ys x y, k1.gives K H xs ∧ k2.gives K H ys ∧ xs[i]? = some x ∧ ys[i]? = some y,
    fun i H v H' => ∃ T o x y, v = .ref T ∧ H T = none ∧ o.dict = none ∧ H' = upd H T (HO.th o [x, y]) ∧ (∀ xs, k1.gives K H xs → xs[i]? = some x) ∧ ∀ ys, k2.gives K H ys → ys[i]? = some y,
    fun i H => ∃ xs ys, k1.gives K H xs ∧ k2.gives K H ys ∧ i ≤ xs.length ∧ i ≤ ys.length ∧ (i = xs.length ∨ i = ys.length)⟩
/-- the addresses of a zip's own objects -/
structure Zp2 (k1 k2 : Kd) (z TI TO i1 i2 : Addr) : Prop where
  sep : ZipSep2 z TI TO i1 i2 (i1 :: k1.ad) (i2 :: k2.ad)
  n1 : i1 ∉ k1.ad
  n2 : i2 ∉ k2.ad
theorem turn_z2 {P : Program} {w : World} {K : PySem.W.Frag} {elts : List Expr} {kk : Nat} {tpos : Pos} (k1 k2 : Kd) {z TI TO i1 i2 : Addr} (S : Zp2 k1 k2 z TI TO i1 i2) :
    Turn P w K (.Tuple elts kk tpos) (Iz2 K k1 k2) [z, TI, TO, i1, i2] z (fun i h => IsZip h z TI TO .none ∧ IsTupOf2 h TI (.ref i1) (.ref i2) ∧ (∃ x y, IsTupOf2 h TO x y) ∧ k1.At i1 i h ∧ k2.At i2 i h) where
  mem := List.mem_cons_self
  obj := fun i h ⟨hz, hI, ⟨x, y, hO⟩, a1, a2⟩ b hb => by
    obtain ⟨o1, v1, e1, d1⟩ := a1.rec'
    obtain ⟨o2, v2, e2, d2⟩ := a2.rec'
    simp only [List.mem_cons, List.not_mem_nil, or_false] at hb
    rcases hb with rfl | rfl | rfl | rfl | rfl
    · exact ⟨_, hz, nofun⟩
    · exact ⟨_, hI, nofun⟩
    · exact ⟨_, hO, nofun⟩
    · exact ⟨o1, e1, fun v q => by rw [d1] at q; cases q⟩
    · exact ⟨o2, e2, fun v q => by rw [d2] at q; cases q⟩
  keep := fun i h h' ⟨hz, hI, ⟨x, y, hO⟩, a1, a2⟩ kp => ⟨kp z (by simp) _ hz, kp TI (by simp) _ hI, ⟨x, y, kp TO (by simp) _ hO⟩, a1.at fun o => kp i1 (by simp) o, a2.at fun o => kp i2 (by simp) o⟩
  item := by
    rintro X rfl rfl rfl hc i pins s σ H E I hf ⟨hz, hI, ⟨x0, y0, hO⟩, a1, a2⟩ ⟨xs, ys, x, y, g1, g2, hx, hy⟩
    obtain ⟨P1, S1, D1, in1, out1, at1⟩ := k1.draws I hc g1 i1 S.n1
    obtain ⟨P2, S2, D2, in2, out2, at2⟩ := k2.draws I hc g2 i2 S.n2
    have hl1 : i < xs.length := (List.getElem?_eq_some_iff.mp hx).1
    have hl2 : i < ys.length := (List.getElem?_eq_some_iff.mp hy).1
    obtain ⟨o1, v1, e1, d1⟩ := a1.rec'
    obtain ⟨o2, v2, e2, d2⟩ := a2.rec'
    have zl := lt_of_get hz
    have zlt : ∀ c ∈ [z, TI, TO, i1, i2], c < s.heap.objs.size := fun c hc => by
      simp only [List.mem_cons, List.not_mem_nil, or_false] at hc
      rcases hc with rfl | rfl | rfl | rfl | rfl
      · exact zl
      · exact lt_of_get hI
      · exact lt_of_get hO
      · exact lt_of_get e1
      · exact lt_of_get e2
    refine wpAny_pyNext_zipD2_item S.sep D1 D2 hz hI hO (in1 i a1) (in2 i a2) hl1 hl2 fun u1 u2 h' tk p1 p2 hz' hO' st1 st2 hT hsz hk => ?_
    obtain ⟨y1, q1, r1⟩ := at1 i u1 p1
    obtain ⟨y2, q2, r2⟩ := at2 i u2 p2
    obtain rfl : x = y1 := Option.some.inj (hx.symm.trans q1)
    obtain rfl : y = y2 := Option.some.inj (hy.symm.trans q2)
    refine ⟨_, rfl, wpAny_letOwnedTupleGo_zip (s := { s with heap := h', toks := tk }) hz' fun h'' hz'' sb => ?_⟩
    have hT2 := (sb.2 s.heap.objs.size (Nat.ne_of_gt zl)).trans hT
    have I1 : Inv X pins σ (upd H s.heap.objs.size (HO.th (tob [u1, u2]) [x, y])) { s with heap := h'', toks := tk } :=
      I.turnedNew (ch := [z, TI, TO, i1, i2]) (fun c o hb q => by
        simp only [List.mem_cons, List.not_mem_nil, or_false, not_or] at hb
        obtain ⟨n1, n2, n3, n4, n5⟩ := hb
        exact (sb.2 c n1).trans (hk c o n1 n3 n4 n5 q)) hf (Nat.le_refl _) (th_ok (by show 2 ≤ sizeLine; decide) (.cons r1 (.cons r2 .nil)) hT2)
    refine ⟨.ref s.heap.objs.size, _, I1, rfl, ⟨_, _, x, y, rfl, I.hok.fresh (Nat.le_refl _), rfl, rfl, fun l hl => by rw [k1.gives_inj I hl g1]; exact hx, fun l hl => by rw [k2.gives_inj I hl g2]; exact hy⟩, ⟨hz'', ?_, ⟨u1, u2, ?_⟩, (out1 _ _ st1).at fun o q => ?_, (out2 _ _ st2).at fun o q => ?_⟩, fun c hc => ?_⟩
    · exact (sb.2 _ S.sep.TIz).trans (hk _ _ S.sep.TIz S.sep.TITO S.sep.TIi1 S.sep.TIi2 hI)
    · exact (sb.2 _ S.sep.TOz).trans hO'
    · exact (sb.2 i1 (fun e => S.sep.zi1 e.symm)).trans q
    · exact (sb.2 i2 (fun e => S.sep.zi2 e.symm)).trans q
    · rw [upd_ne (Nat.ne_of_lt (zlt c hc))]
      exact (hf c hc).1
  done := by
    rintro X rfl rfl rfl hc i pins s σ H E I hf ⟨hz, hI, ⟨x0, y0, hO⟩, a1, a2⟩ ⟨xs, ys, g1, g2, hl1, hl2, hend⟩
    obtain ⟨P1, S1, D1, in1, out1, at1⟩ := k1.draws I hc g1 i1 S.n1
    obtain ⟨P2, S2, D2, in2, out2, at2⟩ := k2.draws I hc g2 i2 S.n2
    exact wpAny_pyNext_zipD2_end S.sep D1 D2 hz hI hO (in1 i a1) (in2 i a2) hl1 hl2 hend fun h' tk hk => ⟨rfl, I.turnedL (t' := tk) (ch := [z, TI, TO, i1, i2]) (fun c o hb q => by
      simp only [List.mem_cons, List.not_mem_nil, or_false, not_or] at hb
      obtain ⟨n1, n2, n3, n4, n5⟩ := hb
      exact hk c o n1 n3 n4 n5 q) hf⟩
  self := fun A i s Q E ⟨hz, _⟩ h => wpAny_pyIter_zip hz h
section
variable {X : Cx} {tg e e2 e3 : Expr} {elts : List Expr} {kk : Nat} {p pos tpos : Pos}
theorem vals2 {a b : V} {us : List Value} (h : Vals [a, b] us) : ∃ u v, us = [u, v] ∧ RelV a u ∧ RelV b v := by
  cases h with
  | cons r t => cases t with
    | cons r2 t => cases t; exact ⟨_, _, rfl, r, r2⟩
def iZip2 (K : PySem.W.Frag) (ta : TA) : TI := fun σ H R => ta σ H fun vs H1 => ∃ x y xs ys C1 C2, vs = [x, y] ∧ Src K H1 x xs C1 ∧ Src K H1 y ys C2 ∧ ∀ k1 k2, C1 k1 → C2 k2 → R (Iz2 K k1 k2) H1
theorem pi_zip2 {ta : TA} (hg : Gl X "zip") (hm : X.mg "zip" = none) (ha : PA X [e, e2] ta) (hs : starEach [e, e2] X.env = (false, eval e X.env) :: starEach [e2] X.env := by rfl) (hpl : (backTo pos (starEach [e2] X.env)).any (·.1) = false := by rfl) :
    PI X (.Tuple elts kk tpos) (.Call (.Name "zip" p) [e, e2] [] pos) (iZip2 X.K ta) := by
  refine ⟨fun pins s σ H R I h => ?_⟩
  refine Call_ (ld_blt I hg hm PyProof.Rows.boot_zip (PyProof.Rows.callWith_type1 (thn (ha.run pos pins s σ H _ I h) fun us s1 ⟨vs, H1, I1, r1, x, y, xs, ys, C1, C2, ev, sx, sy, q⟩ => ?_) hs hpl))
  subst ev
  obtain ⟨u, v, rfl, ru, rv⟩ := vals2 r1
  obtain ⟨k1, h1, rfl, g1⟩ := sx.kd ru
  obtain ⟨k2, h2, rfl, g2⟩ := sy.kd rv
  obtain ⟨Hs1, B1, hs1, lt1⟩ := k1.begins I1 g1
  obtain ⟨Hs2, B2, hs2, lt2⟩ := k2.begins I1 g2
  refine zip_begins2 B1 B2 hs1 hs2 fun h' hz hI hO e1 e2 hsz kp => wpAny_pyIter_zip hz ?_
  have no : ∀ {k : Kd} (j : Nat), (∀ b ∈ k.ad, b < s1.heap.objs.size) → (s1.heap.objs.size + j) ∉ k.ad := fun j hl hm => by
    have z : (s1.heap.objs.size + j : Nat) < s1.heap.objs.size := hl _ hm
    omega
  refine ⟨s1.heap.objs.size + 4, [s1.heap.objs.size + 4, s1.heap.objs.size + 2, s1.heap.objs.size + 3, s1.heap.objs.size, s1.heap.objs.size + 1], _, _, H1, rfl, I1.kept (t' := s1.toks) kp, turn_z2 k1 k2 ⟨zip_sep2 lt1 lt2, no 0 lt1, no 1 lt2⟩, ⟨hz, hI, ⟨_, _, hO⟩, Kd.start e1, Kd.start e2⟩, fun b hb => ?_, q k1 k2 h1 h2⟩
  have hle : s1.heap.objs.size ≤ b := by
    simp only [List.mem_cons, List.not_mem_nil, or_false] at hb
    rcases hb with z | z | z | z | z <;> (rw [z]; first | exact Nat.le_refl _ | exact Nat.le_add_right _ _)
  exact I1.fpOk hle (I1.hok.fresh hle)
end
end VL
set_option Elab.async false
set_option linter.all false
set_option maxRecDepth 100000
set_option maxHeartbeats 4000000
namespace VL
open PySem PySem.Spec PyProof.Rows L2
/-! ### the items of plain data -/
def signsD (x : Str) : List PyData := x.cps.toList.map fun c => PyData.str (mkS [c])
@[simp] def itemsOf : PyData → Option (List PyData)
  | .list xs => some xs
  | .tuple xs => some xs
  | .str x => some (signsD x)
  | _ => none
def enumP (xs : List PyData) : List PyData := xs.zipIdx.map fun p => .tuple [.int (p.2 : Nat), p.1]
def zip2P (xs ys : List PyData) : List PyData := (xs.zip ys).map fun p => .tuple [p.1, p.2]
def zip3P (xs ys zs : List PyData) : List PyData := (xs.zip (ys.zip zs)).map fun p => .tuple [p.1, p.2.1, p.2.2]
def rangeP (i : Int) (n : Nat) : List PyData := (List.range n).map fun k => .int (i + (k : Nat))
theorem enumP_get {xs : List PyData} {k : Nat} {d : PyData} (h : (enumP xs)[k]? = some d) : ∃ x, xs[k]? = some x ∧ d = .tuple [.int (k : Nat), x] := by
  unfold enumP at h
  rw [List.getElem?_map, List.getElem?_zipIdx] at h
  cases e : xs[k]? with
  | none => rw [e] at h; cases h
  | some x => rw [e] at h; cases h; exact ⟨x, rfl, by simp⟩
theorem zip2P_get {xs ys : List PyData} {k : Nat} {d : PyData} (h : (zip2P xs ys)[k]? = some d) : ∃ x y, xs[k]? = some x ∧ ys[k]? = some y ∧ d = .tuple [x, y] := by
  unfold zip2P at h
  rw [List.getElem?_map] at h
  cases e : (xs.zip ys)[k]? with
  | none => rw [e] at h; cases h
  | some x =>
    rw [e] at h; cases h
    rw [List.getElem?_zip_eq_some] at e
    exact ⟨x.1, x.2, e.1, e.2, rfl⟩
theorem rangeP_get {i : Int} {n k : Nat} {d : PyData} (h : (rangeP i n)[k]? = some d) : k < n ∧ d = .int (i + (k : Nat)) := by
  unfold rangeP at h
  rw [List.getElem?_map] at h
  by_cases hk : k < n
  · rw [List.getElem?_range hk] at h; cases h; exact ⟨hk, rfl⟩
  · rw [List.getElem?_eq_none (by simp; omega)] at h; cases h
/-! ### the walks, over data -/
section
variable {b : Bg} {Y Z : Addr → Prop} {H : Hp} {K : PySem.W.Frag}
theorem rqs_signs {x : Str} : Rqs Z H (signs x) (signsD x) := by
  unfold signs signsD
  induction x.cps.toList with
  | nil => exact .nil
  | cons c l ih => exact .cons (.str _) ih
/-- a source: what stands there, and stays -/
structure SrcD (K : PySem.W.Frag) (Y Z : Addr → Prop) (H : Hp) (v : V) (xs : List PyData) (vs : List V) (C : Kd → Prop) : Prop where
  src : Src K H v vs C
  rq : Rqs Z H vs xs
  stay : ∀ k, C k → ∀ H2 : Hp, (∀ a o, H a = some o → ¬ Y a → H2 a = some o) → k.gives K H2 vs
theorem srcD {v : V} {p : PyData} {xs : List PyData} (r : Rb b Z H v (.py p)) (hn : ∀ a, v = .ref a → ¬ Y a) (e : itemsOf p = some xs) : ∃ vs C, SrcD K Y Z H v xs vs C := by
  cases p with
  | list ds =>
    cases e
    obtain ⟨a, us, rfl, ha, q⟩ := r.list
    exact ⟨us, _, .l (SqL.of ha), q, fun k hk H2 h2 => by rw [hk]; exact SqL.of (h2 a _ ha (hn a rfl))⟩
  | tuple ds =>
    cases e
    obtain ⟨a, o, us, rfl, ha, ho, na, q⟩ := r.tuple
    exact ⟨us, _, .t (SqT.th ha), q, fun k hk H2 h2 => by rw [hk]; exact SqT.th (h2 a _ ha (hn a rfl))⟩
  | str x =>
    cases e
    have ev := r.str
    subst ev
    exact ⟨signs x, _, .s, rqs_signs, fun k hk H2 h2 => by obtain ⟨t, rfl⟩ := hk; rfl⟩
  | _ => cases e
/-- what a source has at k -/
theorem SrcD.at {v : V} {xs : List PyData} {vs : List V} {C : Kd → Prop} (s : SrcD K Y Z H v xs vs C) (hY : ∀ a, ¬ Z a → ¬ Y a) {k : Nat} {d : PyData} (h : xs[k]? = some d) {H2 : Hp} (h2 : ∀ a o, H a = some o → ¬ Y a → H2 a = some o) :
    ∃ x, vs[k]? = some x ∧ ∀ Z2 : Addr → Prop, (∀ a, Z2 a → Z a ∨ H a = none) → Rq Z2 H2 x d := by
  obtain ⟨x, hx, r⟩ := s.rq.get h
  exact ⟨x, hx, fun Z2 hz => r.mono hz fun a o e n => h2 a o e (hY a n)⟩
theorem Rq.new2 {Z2 : Addr → Prop} {H2 : Hp} {T : Addr} {o : Obj} {vs : List V} {ds : List PyData} (hT : H2 T = none) (ho : o.dict = none) (hz : ∀ a, Z2 a → H2 a ≠ none) (r : Rqs Z2 H2 vs ds) : Rq Z2 (upd H2 T (HO.th o vs)) (.ref T) (.tuple ds) :=
  .tup upd_same ho (fun z => hz T z hT) (r.up hT)
theorem wk_src {v : V} {xs : List PyData} {vs : List V} {C : Kd → Prop} (s : SrcD K Y Z H v xs vs C) (hY : ∀ a, ¬ Z a → ¬ Y a) {k : Kd} (hk : C k) : Wk b Y Z H (Itk K k) (xs.map D.py) where
  go := fun i d H2 hd h2 g => by
    rw [List.getElem?_map] at hd
    cases e : xs[i]? with
    | none => rw [e] at hd; cases hd
    | some p =>
      rw [e] at hd; cases hd
      obtain ⟨x, hx, r⟩ := s.at hY e h2
      have gv := s.stay k hk H2 h2
      refine ⟨⟨vs, x, gv, hx⟩, fun v H3 y => ?_⟩
      obtain ⟨eH, y⟩ := y
      subst eH
      have : x = v := Option.some.inj (hx.symm.trans (y vs gv))
      subst this
      exact ⟨Ex.refl, g, fun Z2 hz _ => r Z2 hz⟩
  stop := fun i H2 hl h2 => ⟨vs, s.stay k hk H2 h2, by rw [s.rq.length, ← hl, List.length_map]; exact Nat.le_refl _⟩
theorem wk_enum {v : V} {xs : List PyData} {vs : List V} {C : Kd → Prop} (s : SrcD K Y Z H v xs vs C) (hY : ∀ a, ¬ Z a → ¬ Y a) {k : Kd} (hk : C k) : Wk b Y Z H (Iek K k) ((enumP xs).map D.py) where
  go := fun i d H2 hd h2 g => by
    rw [List.getElem?_map] at hd
    cases e : (enumP xs)[i]? with
    | none => rw [e] at hd; cases hd
    | some p =>
      rw [e] at hd; cases hd
      obtain ⟨q, hq, rfl⟩ := enumP_get e
      obtain ⟨x, hx, r⟩ := s.at hY hq h2
      have gv := s.stay k hk H2 h2
      refine ⟨⟨vs, x, gv, hx⟩, fun v H3 y => ?_⟩
      obtain ⟨T, o, x', rfl, hT, ho, eH, y⟩ := y
      subst eH
      have : x = x' := Option.some.inj (hx.symm.trans (y vs gv))
      subst this
      exact ⟨Ex.new hT, Bg.new g hT, fun Z2 hz h3 => Rq.new2 hT ho h3 (.cons (.int _) (.cons (r Z2 hz) .nil))⟩
  stop := fun i H2 hl h2 => ⟨vs, s.stay k hk H2 h2, by rw [s.rq.length, ← hl]; simp [enumP]⟩
theorem wk_zip2 {v w : V} {xs ys : List PyData} {vs ws : List V} {C1 C2 : Kd → Prop} (s : SrcD K Y Z H v xs vs C1) (t : SrcD K Y Z H w ys ws C2) (hY : ∀ a, ¬ Z a → ¬ Y a) {k1 k2 : Kd} (h1 : C1 k1) (hk2 : C2 k2) : Wk b Y Z H (Iz2 K k1 k2) ((zip2P xs ys).map D.py) where
  go := fun i d H2 hd h2 g => by
    rw [List.getElem?_map] at hd
    cases e : (zip2P xs ys)[i]? with
    | none => rw [e] at hd; cases hd
    | some p =>
      rw [e] at hd; cases hd
      obtain ⟨q, q', hq, hq', rfl⟩ := zip2P_get e
      obtain ⟨x, hx, r⟩ := s.at hY hq h2
      obtain ⟨u, hu, r'⟩ := t.at hY hq' h2
      have gv := s.stay k1 h1 H2 h2
      have gu := t.stay k2 hk2 H2 h2
      refine ⟨⟨vs, ws, x, u, gv, gu, hx, hu⟩, fun v H3 y => ?_⟩
      obtain ⟨T, o, x', u', rfl, hT, ho, eH, y1, y2⟩ := y
      subst eH
      have : x = x' := Option.some.inj (hx.symm.trans (y1 vs gv))
      subst this
      have : u = u' := Option.some.inj (hu.symm.trans (y2 ws gu))
      subst this
      exact ⟨Ex.new hT, Bg.new g hT, fun Z2 hz h3 => Rq.new2 hT ho h3 (.cons (r Z2 hz) (.cons (r' Z2 hz) .nil))⟩
  stop := fun i H2 hl h2 => by
    have e : min xs.length ys.length = i := by rw [← hl]; simp [zip2P]
    refine ⟨vs, ws, s.stay k1 h1 H2 h2, t.stay k2 hk2 H2 h2, ?_⟩
    rw [s.rq.length, t.rq.length]
    omega
theorem wk_range {lo : Int} {n : Nat} : Wk b Y Z H (Itr lo n) ((rangeP lo n).map D.py) where
  go := fun i d H2 hd h2 g => by
    rw [List.getElem?_map] at hd
    cases e : (rangeP lo n)[i]? with
    | none => rw [e] at hd; cases hd
    | some p =>
      rw [e] at hd; cases hd
      obtain ⟨hlt, rfl⟩ := rangeP_get e
      refine ⟨hlt, fun v H3 y => ?_⟩
      obtain ⟨eH, y⟩ := y
      subst eH y
      exact ⟨Ex.refl, g, fun Z2 hz _ => .int _⟩
  stop := fun i H2 hl h2 => by
    have e : n = i := by rw [← hl]; simp [rangeP]
    rw [e]
    exact Nat.le_refl _
end
/-! ### iterators as judgements -/
@[simp] def asO {α : Type} : Option α → (α → Prop) → Prop
  | some a, Q => Q a
  | none, _ => False
theorem asO_ex {α : Type} : ∀ {o : Option α} {Q : α → Prop}, asO o Q → ∃ a, o = some a ∧ Q a
  | some a, _, h => ⟨a, rfl, h⟩
@[simp] def asS : D → (List D → Prop) → Prop
  | .py p, Q => asO (itemsOf p) fun xs => Q (xs.map D.py)
  | _, _ => False
@[simp] def asEn : List D → (List D → Prop) → Prop
  | [.py p], Q => asO (itemsOf p) fun xs => Q ((enumP xs).map D.py)
  | _, _ => False
@[simp] def asZ2 : List D → (List D → Prop) → Prop
  | [.py p, .py q], Q => asO (itemsOf p) fun xs => asO (itemsOf q) fun ys => Q ((zip2P xs ys).map D.py)
  | _, _ => False
@[simp] def asZ3 : List D → (List D → Prop) → Prop
  | [.py p, .py q, .py r], Q => asO (itemsOf p) fun xs => asO (itemsOf q) fun ys => asO (itemsOf r) fun zs => Q ((zip3P xs ys zs).map D.py)
  | _, _ => False
abbrev small62 (i : Int) : Prop := -(2 ^ 62) ≤ i ∧ i < 2 ^ 62
@[simp] theorem small62_nat (n : Nat) : small62 (n : Int) ↔ n < 4611686018427387904 := by unfold small62; omega
@[simp] def asR1 : List D → (List D → Prop) → Prop
  | [.py (.int i)], Q => small62 i ∧ Q ((rangeP 0 i.toNat).map D.py)
  | _, _ => False
@[simp] def asR2 : List D → (List D → Prop) → Prop
  | [.py (.int i), .py (.int j)], Q => (small62 i ∧ small62 j) ∧ Q ((rangeP i (j - i).toNat).map D.py)
  | _, _ => False
theorem asS_ex : ∀ {d : D} {Q : List D → Prop}, asS d Q → ∃ p xs, d = .py p ∧ itemsOf p = some xs ∧ Q (xs.map D.py)
  | .py p, _, h => let ⟨xs, e, q⟩ := asO_ex h; ⟨p, xs, rfl, e, q⟩
theorem asEn_ex : ∀ {d : List D} {Q : List D → Prop}, asEn d Q → ∃ p xs, d = [.py p] ∧ itemsOf p = some xs ∧ Q ((enumP xs).map D.py)
  | [.py p], _, h => let ⟨xs, e, q⟩ := asO_ex h; ⟨p, xs, rfl, e, q⟩
theorem asZ2_ex : ∀ {d : List D} {Q : List D → Prop}, asZ2 d Q → ∃ p xs q ys, d = [.py p, .py q] ∧ itemsOf p = some xs ∧ itemsOf q = some ys ∧ Q ((zip2P xs ys).map D.py)
  | [.py p, .py q], _, h => let ⟨xs, e, h⟩ := asO_ex h; let ⟨ys, e2, h⟩ := asO_ex h; ⟨p, xs, q, ys, rfl, e, e2, h⟩
theorem asR1_ex : ∀ {d : List D} {Q : List D → Prop}, asR1 d Q → ∃ i, d = [.py (.int i)] ∧ small62 i ∧ Q ((rangeP 0 i.toNat).map D.py)
  | [.py (.int i)], _, h => ⟨i, rfl, h⟩
@[simp] def iS (t : VT) : VIt := fun ρ Q E => t ρ (fun d => asS d Q) E
@[simp] def iEn (t : VA) : VIt := fun ρ Q E => t ρ (fun d => asEn d Q) E
@[simp] def iZ2 (t : VA) : VIt := fun ρ Q E => t ρ (fun d => asZ2 d Q) E
@[simp] def iZ3 (t : VA) : VIt := fun ρ Q E => t ρ (fun d => asZ3 d Q) E
@[simp] def iR1 (t : VA) : VIt := fun ρ Q E => t ρ (fun d => asR1 d Q) E
@[simp] def iR2 (t : VA) : VIt := fun ρ Q E => t ρ (fun d => asR2 d Q) E
theorem pi_mono {X : Cx} {tg iter : Expr} {t t' : TI} (h : PI X tg iter t) (m : ∀ σ H R, t' σ H R → t σ H R) : PI X tg iter t' := ⟨fun pins s σ H R I q => h.run pins s σ H R I (m σ H R q)⟩
section
variable {X : Cx} {b : Bg} {W : WX} {tg e e1 e2 e3 : Expr} {elts : List Expr} {kk : Nat} {t t1 t2 t3 : VT} {p pos tpos : Pos}
theorem Rp.ref {Z : Addr → Prop} {H : Hp} {v : V} {p : PyData} (r : Rp b Z H v (.py p)) : ∀ a, v = .ref a → ¬ Z a := fun a e => by
  subst e
  cases r <;> assumption
theorem Rb.ref {Z : Addr → Prop} {H : Hp} {v : V} {p : PyData} (g : Gd b Z H) (r : Rb b Z H v (.py p)) : ∀ a, v = .ref a → ¬ b.B a := fun a e => by
  rcases r with r | ⟨c, e1, n, _⟩
  · exact fun z => Rp.ref r a e (g.zb a z)
  · rw [e] at e1; cases e1; exact n
/-- a loop -/
theorem vi_src (h : VE X b W e t) : VI X b W tg e (iS t) := pi_mono (pi_src h) fun σ H R ⟨Zo, Z, ρ, Qd, Ed, v, q, l, m⟩ =>
  ⟨Zo, Z, ρ, _, Ed, v, q, fun x H1 d x1 g1 r1 hh => by
    obtain ⟨p, xs, ed, ei, q1⟩ := asS_ex hh
    subst ed
    obtain ⟨vs, C, s⟩ := srcD (K := X.K) (Y := Z) (.inl r1) (Rp.ref r1) ei
    exact ⟨vs, C, s.src, fun k hk => l _ H1 _ x1 g1 (wk_src s (fun _ n => n) hk) q1⟩, m⟩
theorem vib_src (h : VX X b W e t) : VIb X b W tg e (iS t) := pi_mono (pi_src h) fun σ H R ⟨Zo, Z, ρ, Qd, Ed, v, q, l, m⟩ =>
  ⟨Zo, Z, ρ, _, Ed, v, q, fun x H1 d x1 g1 r1 hh => by
    obtain ⟨p, xs, ed, ei, q1⟩ := asS_ex hh
    subst ed
    have gd := (v.ex x1 g1).gd
    obtain ⟨vs, C, s⟩ := srcD (K := X.K) (Y := b.B) r1 (Rb.ref gd r1) ei
    exact ⟨vs, C, s.src, fun k hk => l _ H1 _ x1 g1 (wk_src s (fun _ n z => n (gd.zb _ z)) hk) q1⟩, m⟩
theorem rbs1 {Z : Addr → Prop} {H : Hp} {v : List V} {d : D} (r : Rps b Z H v [d]) : ∃ x, v = [x] ∧ Rp b Z H x d := by
  cases r with
  | cons r t => cases t; exact ⟨_, rfl, r⟩
theorem rbs2 {Z : Addr → Prop} {H : Hp} {v : List V} {d d2 : D} (r : Rps b Z H v [d, d2]) : ∃ x y, v = [x, y] ∧ Rp b Z H x d ∧ Rp b Z H y d2 := by
  cases r with
  | cons r t => obtain ⟨y, rfl, r2⟩ := rbs1 t; exact ⟨_, y, rfl, r, r2⟩
variable {ta : VA}
theorem vi_enum (hg : Gl X "enumerate") (hm : X.mg "enumerate" = none) (h : VAs X b W [e] ta) (hs : starEach [e] X.env = [(false, eval e X.env)] := by rfl) : VI X b W (.Tuple elts kk tpos) (.Call (.Name "enumerate" p) [e] [] pos) (iEn ta) :=
  pi_mono (pi_enumS hg hm h hs) fun σ H R ⟨Zo, Z, ρ, Qd, Ed, v, q, l, m⟩ =>
    ⟨Zo, Z, ρ, _, Ed, v, q, fun x H1 d x1 g1 r1 hh => by
      obtain ⟨p, xs, ed, ei, q1⟩ := asEn_ex hh
      subst ed
      obtain ⟨w, rfl, r2⟩ := rbs1 r1
      obtain ⟨vs, C, s⟩ := srcD (K := X.K) (Y := Z) (.inl r2) (Rp.ref r2) ei
      exact ⟨w, vs, C, rfl, s.src, fun k hk => l _ H1 _ x1 g1 (wk_enum s (fun _ n => n) hk) q1⟩, m⟩
theorem vib_enum (hg : Gl X "enumerate") (hm : X.mg "enumerate" = none) (h : VXs X b W [e] ta) (hs : starEach [e] X.env = [(false, eval e X.env)] := by rfl) : VIb X b W (.Tuple elts kk tpos) (.Call (.Name "enumerate" p) [e] [] pos) (iEn ta) :=
  pi_mono (pi_enumS hg hm h hs) fun σ H R ⟨Zo, Z, ρ, Qd, Ed, v, q, l, m⟩ =>
    ⟨Zo, Z, ρ, _, Ed, v, q, fun x H1 d x1 g1 r1 hh => by
      obtain ⟨p, xs, ed, ei, q1⟩ := asEn_ex hh
      subst ed
      have gd := (v.ex x1 g1).gd
      obtain ⟨w, rfl, r2⟩ := Rbs.one r1
      obtain ⟨vs, C, s⟩ := srcD (K := X.K) (Y := b.B) r2 (Rb.ref gd r2) ei
      exact ⟨w, vs, C, rfl, s.src, fun k hk => l _ H1 _ x1 g1 (wk_enum s (fun _ n z => n (gd.zb _ z)) hk) q1⟩, m⟩
theorem vib_zip2 (hg : Gl X "zip") (hm : X.mg "zip" = none) (h : VXs X b W [e, e2] ta) (hs : starEach [e, e2] X.env = (false, eval e X.env) :: starEach [e2] X.env := by rfl) (hpl : (backTo pos (starEach [e2] X.env)).any (·.1) = false := by rfl) :
    VIb X b W (.Tuple elts kk tpos) (.Call (.Name "zip" p) [e, e2] [] pos) (iZ2 ta) :=
  pi_mono (pi_zip2 hg hm h hs hpl) fun σ H R ⟨Zo, Z, ρ, Qd, Ed, v, q, l, m⟩ =>
    ⟨Zo, Z, ρ, _, Ed, v, q, fun x H1 d x1 g1 r1 hh => by
      obtain ⟨p, xs, q, ys, ed, ei, ej, q1⟩ := asZ2_ex hh
      subst ed
      have gd := (v.ex x1 g1).gd
      obtain ⟨w, y, rfl, r1, r2⟩ := Rbs.two r1
      obtain ⟨vs, C, s⟩ := srcD (K := X.K) (Y := b.B) r1 (Rb.ref gd r1) ei
      obtain ⟨vs2, C2, s2⟩ := srcD (K := X.K) (Y := b.B) r2 (Rb.ref gd r2) ej
      exact ⟨w, y, vs, vs2, C, C2, rfl, s.src, s2.src, fun k k2 hk hk2 => l _ H1 _ x1 g1 (wk_zip2 s s2 (fun _ n z => n (gd.zb _ z)) hk hk2) q1⟩, m⟩
theorem pi_rng1 {Yf : (Addr → Prop) → Addr → Prop} (hg : Gl X "range") (hm : X.mg "range" = none) (h : VXs X b W [e] ta) (hs : starEach [e] X.env = [(false, eval e X.env)] := by rfl) : PI X tg (.Call (.Name "range" p) [e] [] pos) (LI b W Yf (iR1 ta)) :=
  pi_mono (pi_range1 hg hm h hs) fun σ H R ⟨Zo, Z, ρ, Qd, Ed, v, q, l, m⟩ =>
    ⟨Zo, Z, ρ, _, Ed, v, q, fun x H1 d x1 g1 r1 hh => by
      obtain ⟨i, ed, ⟨i1, i2⟩, q1⟩ := asR1_ex hh
      subst ed
      obtain ⟨w, rfl, r2⟩ := Rbs.one r1
      exact ⟨i, by rw [r2.int], i1, i2, l _ H1 _ x1 g1 wk_range q1⟩, m⟩
theorem vi_range1 (hg : Gl X "range") (hm : X.mg "range" = none) (h : VXs X b W [e] ta) (hs : starEach [e] X.env = [(false, eval e X.env)] := by rfl) : VI X b W tg (.Call (.Name "range" p) [e] [] pos) (iR1 ta) := pi_rng1 hg hm h hs
theorem vib_range1 (hg : Gl X "range") (hm : X.mg "range" = none) (h : VXs X b W [e] ta) (hs : starEach [e] X.env = [(false, eval e X.env)] := by rfl) : VIb X b W tg (.Call (.Name "range" p) [e] [] pos) (iR1 ta) := pi_rng1 hg hm h hs
end
end VL
set_option Elab.async false
set_option linter.all false
set_option maxRecDepth 100000
set_option maxHeartbeats 4000000
namespace VL
open PySem PySem.Spec PyProof.Rows L2
/-! ### from a loop's start on -/
section
variable {b : Bg} {W : WX} {H0 : Hp} {M Zo Z Z' : Addr → Prop} {σ σ' : L2.St} {H H' : Hp} {ρ ρ' : VEnv} {De : VEnds} {Dn : Ends}
/-- what a loop may write: its def's own objects -/
abbrev Mo (Zo Z : Addr → Prop) : Addr → Prop := fun a => Z a ∧ ¬ Zo a
theorem VOk.here (v : VOk b Zo Z σ H ρ) : FOk b H (Mo Zo Z) Zo Z σ H ρ :=
  ⟨v, fun _ _ e _ _ => e, fun i d a h1 h2 => by
    obtain ⟨c, h3, h4, h5, _⟩ := v.own i d h1
    rw [h2] at h3; cases h3
    exact .inl ⟨h4, h5⟩⟩
theorem FOk.mine (f : FOk b H0 M Zo Z σ H ρ) {a : Addr} (h : Mo Zo Z a) : M a ∨ H0 a = none := by
  rcases f.v.zi a h.1 with z | ⟨i, d, h1, h2⟩
  · exact absurd z h.2
  · exact f.fr i d a h1 h2
theorem FOk.extBack (f : FOk b H0 M Zo Z σ H ρ) (x : ∀ a o, H a = some o → ¬ b.B a → ¬ Mo Zo Z a → H' a = some o) : ∀ a o, H0 a = some o → ¬ b.B a → ¬ M a → H' a = some o := fun a o e nb nm =>
  x a o (f.ext a o e nb nm) nb fun mo => by
    rcases f.mine mo with z | z
    · exact nm z
    · rw [e] at z; cases z
theorem FOk.back (f : FOk b H0 M Zo Z σ H ρ) (f' : FOk b H (Mo Zo Z) Zo Z' σ' H' ρ') : FOk b H0 M Zo Z' σ' H' ρ' :=
  ⟨f'.v, f.extBack f'.ext, fun i d a h1 h2 => by
    rcases f'.fr i d a h1 h2 with z | z
    · exact f.mine z
    · cases q : H0 a with
      | none => exact .inr rfl
      | some o =>
        by_cases hb : b.B a
        · exact absurd z (b.dom _ _ f.v.g hb)
        · by_cases hm : M a
          · exact .inl hm
          · rw [f.ext a o q hb hm] at z; cases z⟩
theorem Lk.here (l : Lk b W H0 M Zo De Dn) (f : FOk b H0 M Zo Z σ H ρ) : Lk b W H (Mo Zo Z) Zo De Dn where
  nx := fun Z' σ' H' ρ' f' q => l.nx Z' σ' H' ρ' (f.back f') q
  rt := fun v H' d x g r q => l.rt v H' d (f.extBack x) g r q
  bk := fun Z' σ' H' ρ' f' q => l.bk Z' σ' H' ρ' (f.back f') q
  ct := fun Z' σ' H' ρ' f' q => l.ct Z' σ' H' ρ' (f.back f') q
  ex := fun c x Z' σ' H' ρ' er f' r q => l.ex c x Z' σ' H' ρ' er (f.back f') r q
/-- what is owned later was owned at the start, or is new -/
theorem FOk.young (f : FOk b H (Mo Zo Z) Zo Z' σ' H' ρ') (v : VOk b Zo Z σ H ρ) : ∀ a, Z' a → Z a ∨ H a = none := fun a z => by
  rcases f.v.zi a z with z | ⟨i, d, h1, h2⟩
  · exact .inl (v.zo a z)
  · exact (f.fr i d a h1 h2).imp (·.1) id
end
/-! ### for -/
@[simp] def forGo (g : VTg) (tb : VS) : List D → VEnv → VEnds → Prop
  | [], ρ, De => De.nx ρ
  | d :: ds, ρ, De => g d ρ fun ρ1 => tb ρ1 { De with nx := fun ρ2 => forGo g tb ds ρ2 De, ct := fun ρ2 => forGo g tb ds ρ2 De, bk := De.nx }
@[simp] def sFor (ti : VIt) (g : VTg) (tb : VS) : VS := fun ρ De => ti ρ (fun ds => forGo g tb ds ρ De) (De.ex ρ)
section
variable {X : Cx} {b : Bg} {W : WX} {tg iter : Expr} {body : List Stmt} {ti : VIt} {js : List Nat} {g : VTg} {tb : VS} {pos : Pos}
theorem vs_for (hp : PassesOwn (model X.prog X.w) X.A X.env X.xe) (hc : X.calm = true) (hi : VI X b W tg iter ti) (hg : VG X b tg js g) (hb : VSs X b W body tb)
    (hs : ∀ x, foldedSetIterable iter X.env x = pure x := by intro _; rfl) : VSt X b W (.For tg iter body [] pos) (sFor ti g tb) :=
  ps_mono (ps_for hp hc hi hg hb hs) fun Dn σ H ⟨H0, M, Zo, Z, ρ, De, f, q, l⟩ => ⟨Zo, Z, ρ, _, _, f.v, q, fun J H1 ds x1 g1 wk q1 => by
    have f1 := f.ex x1 g1
    have l1 := l.here f1
    have hZ : ∀ a, ¬ Z a → ¬ b.B a ∧ ¬ Mo Zo Z a := fun a n => ⟨fun z => n (f.v.zo _ (f.v.zb a z)), fun z => n z.1⟩
    refine ⟨fun i m σ' H' => m = ds.length - i ∧ i ≤ ds.length ∧ ∃ Z' ρ', FOk b H1 (Mo Zo Z) Zo Z' σ' H' ρ' ∧ forGo g tb (ds.drop i) ρ' De, ⟨ds.length, by simp, Nat.zero_le _, Z, ρ, f1.v.here, q1⟩, ?_⟩
    rintro i m σ' H' ⟨rfl, hi, Z', ρ', f', q'⟩
    have st : ∀ a o, H1 a = some o → ¬ Z a → H' a = some o := fun a o e n => f'.ext a o e (hZ a n).1 (hZ a n).2
    by_cases hlt : i < ds.length
    · rw [List.drop_eq_getElem_cons hlt] at q'
      obtain ⟨go, yl⟩ := wk.go i ds[i] H' (List.getElem?_eq_getElem hlt) st f'.v.g
      refine .inr ⟨go, fun σ2 H2 => ∃ Z2 ρ2, FOk b H1 (Mo Zo Z) Zo Z2 σ2 H2 ρ2 ∧ forGo g tb (ds.drop (i + 1)) ρ2 De, fun σ2 H2 h2 => ⟨ds.length - (i + 1), by omega, rfl, hlt, h2⟩, fun v H3 y => ?_⟩
      obtain ⟨x3, g3, r3⟩ := yl v H3 y
      refine ⟨H1, Mo Zo Z, Zo, Z', ρ', _, _, f'.ex x3 g3, r3 Z' (f'.young f1.v) f'.v.dom, q', fun Z4 σ4 ρ4 _ _ f4 q4 => ?_⟩
      exact ⟨H1, Mo Zo Z, Zo, Z4, ρ4, _, f4, q4, ⟨fun Z5 σ5 H5 ρ5 f5 q5 => ⟨Z5, ρ5, f5, q5⟩, l1.rt, fun Z5 σ5 H5 ρ5 f5 q5 => l1.nx Z5 σ5 H5 ρ5 f5 q5, fun Z5 σ5 H5 ρ5 f5 q5 => ⟨Z5, ρ5, f5, q5⟩, l1.ex⟩⟩
    · have e : ds.length = i := by omega
      rw [List.drop_eq_nil_of_le (by omega)] at q'
      exact .inl ⟨wk.stop i H' e st, l1.nx Z' σ' H' ρ' f' q'⟩, l.er f⟩
/-! ### while -/
def sWhile (c : VB) (tb : VS) : VS := fun ρ De => ∃ Iv : Nat → VEnv → Prop, (∃ m, Iv m ρ) ∧ ∀ m ρ, Iv m ρ →
  c ρ (fun k => if k = true then tb ρ { De with nx := fun ρ' => ∃ m', m' < m ∧ Iv m' ρ', ct := fun ρ' => ∃ m', m' < m ∧ Iv m' ρ', bk := De.nx } else De.nx ρ) (De.ex ρ)
theorem vs_while {c : Expr} {tc : VB} (hp : PassesOwn (model X.prog X.w) X.A X.env X.xe) (hc : VTe X b W c tc) (hb : VSs X b W body tb) : VSt X b W (.While c body [] pos) (sWhile tc tb) :=
  ps_mono (ps_while hp hc hb) fun Dn σ H ⟨H0, M, Zo, Z, ρ, De, f, ⟨Iv, ⟨m0, i0⟩, turn⟩, l⟩ => by
    refine ⟨fun m σ' H' => ∃ Z' ρ', FOk b H0 M Zo Z' σ' H' ρ' ∧ Iv m ρ', ⟨m0, Z, ρ, f, i0⟩, ?_⟩
    rintro m σ' H' ⟨Z', ρ', f', q'⟩
    refine ⟨Zo, Z', ρ', _, _, f'.v, turn m ρ' q', fun k H2 x g q2 => ?_, l.er f'⟩
    cases k with
    | true =>
      refine ⟨fun σ3 H3 => ∃ m', m' < m ∧ ∃ Z3 ρ3, FOk b H0 M Zo Z3 σ3 H3 ρ3 ∧ Iv m' ρ3, fun σ3 H3 ⟨m', hm, h3⟩ => ⟨m', hm, h3⟩, ?_⟩
      exact ⟨H0, M, Zo, Z', ρ', _, f'.ex x g, q2, ⟨fun Z5 σ5 H5 ρ5 f5 ⟨m', hm, q5⟩ => ⟨m', hm, Z5, ρ5, f5, q5⟩, l.rt, fun Z5 σ5 H5 ρ5 f5 q5 => l.nx Z5 σ5 H5 ρ5 f5 q5, fun Z5 σ5 H5 ρ5 f5 ⟨m', hm, q5⟩ => ⟨m', hm, Z5, ρ5, f5, q5⟩, l.ex⟩⟩
    | false => exact l.nx Z' σ' H2 ρ' (f'.ex x g) q2
end
/-! ### list comprehensions -/
abbrev noW : WX := fun _ _ _ _ => False
abbrev noE : Er → Prop := fun _ => False
@[simp] def wipeE (ρ : VEnv) : List Nat → VEnv
  | [] => ρ
  | v :: vs => (wipeE ρ vs).set v .un
@[simp] def wYes : VB := fun _ Q _ => Q true
@[simp] def lcGo (g : VTg) (tt : VB) (te : VT) (Q : D → Prop) : List D → List PyData → VEnv → Prop
  | [], acc, _ => Q (.py (.list acc))
  | d :: ds, acc, ρ => g d ρ fun ρ1 => tt ρ1 (fun k => if k = true then te ρ1 (fun y => ∃ p, y = .py p ∧ acc.length < sizeLine ∧ lcGo g tt te Q ds (acc ++ [p]) ρ) noE else lcGo g tt te Q ds acc ρ) noE
/-- no slot of these is owned -/
@[simp] def noOwn (ρ : VEnv) (vs : List Nat) : Prop := ∀ i ∈ vs, ∀ d, ρ[i]? ≠ some (.own d)
@[simp] def vLc (vs : List Nat) (ti : VIt) (g : VTg) (tt : VB) (te : VT) : VT := fun ρ Q E => noOwn ρ vs ∧ ti ρ (fun ds => lcGo g tt te Q ds [] (wipeE ρ vs)) E
theorem wipeE_len (ρ : VEnv) : ∀ vs : List Nat, (wipeE ρ vs).length = ρ.length
  | [] => rfl
  | v :: vs => by unfold wipeE; rw [List.length_set, wipeE_len ρ vs]
theorem wipeE_in {ρ : VEnv} {i : Nat} {s : Slot} : ∀ {vs : List Nat}, (wipeE ρ vs)[i]? = some s → (s = .un ∧ i ∈ vs) ∨ (ρ[i]? = some s ∧ i ∉ vs)
  | [], h => .inr ⟨h, by simp⟩
  | v :: vs, h => by
    unfold wipeE at h
    by_cases hi : v = i
    · subst hi
      by_cases hv : v < (wipeE ρ vs).length
      · rw [List.getElem?_set_self hv] at h; cases h; exact .inl ⟨rfl, List.mem_cons_self⟩
      · rw [List.getElem?_eq_none (by rw [List.length_set]; omega)] at h; cases h
    · rw [List.getElem?_set_ne hi] at h
      rcases wipeE_in h with ⟨h1, h2⟩ | ⟨h1, h2⟩
      · exact .inl ⟨h1, List.mem_cons_of_mem _ h2⟩
      · exact .inr ⟨h1, fun m => by
          rcases List.mem_cons.mp m with e | m
          · exact hi e.symm
          · exact h2 m⟩
theorem wipeE_out {ρ : VEnv} {i : Nat} {s : Slot} (h : ρ[i]? = some s) : ∀ {vs : List Nat}, i ∉ vs → (wipeE ρ vs)[i]? = some s
  | [], _ => h
  | v :: vs, hn => by
    unfold wipeE
    rw [List.getElem?_set_ne (fun e => hn (by rw [e]; exact List.mem_cons_self))]
    exact wipeE_out h fun m => hn (List.mem_cons_of_mem _ m)
theorem wipe_same {σ σ' : L2.St} {ρ ρ' : VEnv} {js : List Nat} (s : Same js σ σ' ρ ρ') : ∀ {vs : List Nat}, (∀ j ∈ js, j ∈ vs) → wipe σ' vs = wipe σ vs := fun {vs} h => by
  have wo : ∀ (τ : L2.St) (j : Nat) (vs : List Nat), j ∉ vs → (wipe τ vs)[j]? = τ[j]? := fun τ j vs => by
    induction vs with
    | nil => intro _; rfl
    | cons v vs ih =>
      intro hn
      show ((wipe τ vs).set v none)[j]? = _
      rw [List.getElem?_set_ne (fun e => hn (by rw [e]; exact List.mem_cons_self))]
      exact ih fun m => hn (List.mem_cons_of_mem _ m)
  have wi : ∀ (τ : L2.St) (j : Nat) (vs : List Nat), j ∈ vs → (wipe τ vs)[j]? = if j < τ.length then some none else none := fun τ j vs => by
    induction vs with
    | nil => intro h; cases h
    | cons v vs ih =>
      intro hm
      show ((wipe τ vs).set v none)[j]? = _
      by_cases e : v = j
      · subst e
        by_cases hl : v < τ.length
        · rw [List.getElem?_set_self (by rw [wipe_length]; exact hl), if_pos hl]
        · rw [List.getElem?_eq_none (by rw [List.length_set, wipe_length]; omega), if_neg hl]
      · rw [List.getElem?_set_ne e]
        exact ih ((List.mem_cons.mp hm).resolve_left fun q => e q.symm)
  apply List.ext_getElem?
  intro j
  by_cases hj : j ∈ vs
  · rw [wi σ' j vs hj, wi σ j vs hj, s.len]
  · rw [wo σ' j vs hj, wo σ j vs hj]
    exact s.out j fun m => hj (h j m)
theorem VOk.wiped {b : Bg} {Zo Z : Addr → Prop} {σ : L2.St} {H : Hp} {ρ : VEnv} (v : VOk b Zo Z σ H ρ) {vs : List Nat} (hn : noOwn ρ vs) : VOk b Zo Z (wipe σ vs) H (wipeE ρ vs) where
  g := v.g
  zb := v.zb
  zo := v.zo
  dom := v.dom
  zi := fun a z => by
    rcases v.zi a z with z | ⟨i, d, h1, h2⟩
    · exact .inl z
    · have hi : i ∉ vs := fun m => hn i m d h1
      exact .inr ⟨i, d, wipeE_out h1 hi, by rw [wipe_out hi]; exact h2⟩
  own := fun i d h => by
    rcases wipeE_in h with ⟨h1, _⟩ | ⟨h1, hi⟩
    · cases h1
    · obtain ⟨a, h2, h3⟩ := v.own i d h1
      exact ⟨a, by rw [wipe_out hi]; exact h2, h3⟩
  inj := fun i j d e a h1 h2 h3 h4 => by
    rcases wipeE_in h1 with ⟨q, _⟩ | ⟨h1, hi⟩
    · cases q
    · rcases wipeE_in h2 with ⟨q, _⟩ | ⟨h2, hj⟩
      · cases q
      · rw [wipe_out hi] at h3
        rw [wipe_out hj] at h4
        exact v.inj i j d e a h1 h2 h3 h4
  shr := fun i d h => by
    rcases wipeE_in h with ⟨h1, _⟩ | ⟨h1, hi⟩
    · cases h1
    · obtain ⟨u, h2, h3⟩ := v.shr i d h1
      exact ⟨u, by rw [wipe_out hi]; exact h2, h3⟩
  len := by rw [wipeE_len, wipe_length]; exact v.len
section
variable {b : Bg} {Z : Addr → Prop} {H : Hp} {a : Addr}
/-- one more address to be avoided: nothing that is known reaches a new one -/
theorem Rp.apart (ha : H a = none) {o : HO} {v : V} {d : D} (r : Rp b Z H v d) : Rp b (fun c => Z c ∨ c = a) (upd H a o) v d :=
  r.mono (fun c z => z.imp id fun e => by rw [e]; exact ha) fun c u e _ => by rw [upd_ne (ne_of_none e ha)]; exact e
theorem Ow.apart (ha : H a = none) {o : HO} {c : Addr} {d : D} (r : Ow b Z H c d) : Ow b (fun c => Z c ∨ c = a) (upd H a o) c d :=
  r.mono (fun c z => z.imp id fun e => by rw [e]; exact ha) (fun c u e _ => by rw [upd_ne (ne_of_none e ha)]; exact e) fun u e => by rw [upd_ne (ne_of_none e ha)]; exact e
theorem VOk.apart {Zo : Addr → Prop} {σ : L2.St} {ρ : VEnv} (v : VOk b Zo Z σ H ρ) (ha : H a = none) {o : HO} : VOk b (fun c => Zo c ∨ c = a) (fun c => Z c ∨ c = a) σ (upd H a o) ρ where
  g := Bg.new v.g ha
  zb := fun c z => .inl (v.zb c z)
  zo := fun c z => z.imp (v.zo c) id
  dom := fun c z => by
    by_cases e : c = a
    · rw [e, upd_same]; simp
    · rw [upd_ne e]; exact v.dom c (z.resolve_right e)
  zi := fun c z => z.elim (fun z => (v.zi c z).imp .inl id) fun e => .inl (.inr e)
  own := fun i d e => by
    obtain ⟨c, h1, h2, h3, h4⟩ := v.own i d e
    exact ⟨c, h1, .inl h2, fun z => z.elim h3 fun q => v.dom c h2 (by rw [q]; exact ha), h4.apart ha⟩
  inj := v.inj
  shr := fun i d e => by
    obtain ⟨u, h1, h2⟩ := v.shr i d e
    exact ⟨u, h1, h2.apart ha⟩
  len := v.len
/-- an object that is an outer one's is written: nothing here reaches it -/
theorem VOk.outer {Zo : Addr → Prop} {σ : L2.St} {ρ : VEnv} (v : VOk b Zo Z σ H ρ) (ha : Zo a) (nb : ¬ b.B a) (hx : ∀ o, still o → H a ≠ some o) {o : HO} : VOk b Zo Z σ (upd H a o) ρ := by
  have keep : ∀ c u, H c = some u → ¬ Z c → upd H a o c = some u := fun c u e n => by rw [upd_ne (fun q => n (by rw [q]; exact v.zo a ha))]; exact e
  refine ⟨b.loc H _ (fun c hc => upd_ne fun q => nb (by rw [← q]; exact hc)) (fun c o ho e => by rw [upd_ne (fun q => hx o ho (by rw [← q]; exact e))]; exact e) v.g, v.zb, v.zo, fun c z => ?_, v.zi, fun i d e => ?_, v.inj, fun i d e => ?_, v.len⟩
  · by_cases q : c = a
    · rw [q, upd_same]; simp
    · rw [upd_ne q]; exact v.dom c z
  · obtain ⟨c, h1, h2, h3, h4⟩ := v.own i d e
    exact ⟨c, h1, h2, h3, h4.mono (fun _ z => .inl z) keep fun u e => by rw [upd_ne (fun q => h3 (by rw [q]; exact ha))]; exact e⟩
  · obtain ⟨u, h1, h2⟩ := v.shr i d e
    exact ⟨u, h1, h2.mono (fun _ z => .inl z) keep⟩
end
section
variable {b : Bg} {W : WX} {ti : VIt} {js : List Nat} {g : VTg} {tt : VB} {te : VT} {vs : List Nat}
theorem lc_sound (hjs : ∀ j ∈ js, j ∈ vs) : ∀ σ H Q, LE b W (RN b) (vLc vs ti g tt te) σ H Q → tLc (LI b W (fun _ => b.B) ti) (LG b js g) (LB b noW tt) (LE b noW (RE b) te) vs σ H Q :=
  fun σ H Q ⟨Zo, Z, ρ, Qd, Ed, v, ⟨hno, q⟩, l, m⟩ => ⟨Zo, Z, ρ, _, _, v, q, fun J H1 ds x1 g1 wk q1 => by
    intro A hA
    have v1 := v.ex x1 g1
    have nzA : ¬ Z A := v1.fresh hA
    have nbA : ¬ b.B A := v1.nb nzA
    have hA0 : H A = none := none_back g1 x1 A hA
    have v2 := (v1.apart hA (o := .lst [])).wiped hno
    -- the invariant
    let Iv : Nat → Hp → Prop := fun i H' => ∃ xs acc, H' A = some (.lst xs) ∧ Rqs (fun c => Z c ∨ c = A) H' xs acc ∧ VOk b (fun c => Zo c ∨ c = A) (fun c => Z c ∨ c = A) (wipe σ vs) H' (wipeE ρ vs) ∧ (∀ a o, H1 a = some o → ¬ b.B a → H' a = some o) ∧ lcGo g tt te Qd (ds.drop i) acc (wipeE ρ vs)
    refine ⟨fun i m H' => m = ds.length - i ∧ i ≤ ds.length ∧ Iv i H', ⟨ds.length, by simp, Nat.zero_le _, [], [], upd_same, .nil, v2, fun a o e _ => by rw [upd_ne (ne_of_none e hA)]; exact e, q1⟩, ?_⟩
    rintro i m H' ⟨rfl, hi, xs, acc, hx, rx, v', st, q'⟩
    by_cases hlt : i < ds.length
    · rw [List.drop_eq_getElem_cons hlt] at q'
      obtain ⟨go, yl⟩ := wk.go i ds[i] H' (List.getElem?_eq_getElem hlt) st v'.g
      refine .inr ⟨go, Iv (i + 1), fun H2 h2 => ⟨ds.length - (i + 1), by omega, rfl, hlt, h2⟩, fun w H3 y => ?_⟩
      obtain ⟨x3, g3, r3⟩ := yl w H3 y
      have v3 := v'.ex x3 g3
      refine ⟨H3, fun _ => True, _, _, _, ds[i], _, ⟨v3, fun _ _ e _ _ => e, fun _ _ _ _ _ => .inl trivial⟩, r3 _ (fun a z => z.imp id fun e => by rw [e]; exact hA) v'.dom, q', fun Z4 σ4 ρ4 sub sm f4 q4 => ?_⟩
      have ww : wipe (wipe σ vs) vs = wipe σ vs := wipe_same (js := vs) (σ := σ) (ρ := ρ) (ρ' := ρ) ⟨by rw [wipe_length], fun j hj => wipe_out hj, fun _ _ => rfl⟩ fun j h => h
      refine ⟨(wipe_same sm hjs).trans ww, ?_⟩
      have st3 : ∀ a o, H1 a = some o → ¬ b.B a → H3 a = some o := fun a o e n => x3 a o (st a o e n) n
      have hx3 : H3 A = some (.lst xs) := x3 A _ hx nbA
      refine ⟨_, _, _, _, _, f4.v, q4, fun k H5 x5 g5 q5 => ?_, fun c z H5 er _ _ _ h => h.elim⟩
      have st5 : ∀ a o, H1 a = some o → ¬ b.B a → H5 a = some o := fun a o e n => x5 a o (st3 a o e n) n
      have hx5 : H5 A = some (.lst xs) := x5 A _ hx3 nbA
      have v5 := v3.ex x5 g5
      have rx5 : Rqs (fun c => Z c ∨ c = A) H5 xs acc := v3.rqs x5 (v'.rqs x3 rx)
      cases k with
      | false => exact ⟨xs, acc, hx5, rx5, v5, st5, q5⟩
      | true =>
        refine ⟨_, _, _, _, _, f4.v.ex x5 g5, q5, fun u H6 d6 x6 g6 r6 ⟨p, ep, hz, q6⟩ => ?_, fun c z H6 er _ _ _ h => h.elim⟩
        subst ep
        have hx6 : H6 A = some (.lst xs) := x6 A _ hx5 nbA
        have rx6 := v5.rqs x6 rx5
        have v6 := v5.ex x6 g6
        have zo4 : ∀ c, (Zo c ∨ c = A) → Z4 c := f4.v.zo
        have r7 : Rq (fun c => Z c ∨ c = A) H6 u p := by
          refine Rq.mono (fun c z => ?_) (fun _ _ e _ => e) r6
          -- what the block's names own is what the def owns
          rcases v'.zi c z with z' | ⟨j, dj, h1, h2⟩
          · exact .inl (zo4 c z')
          · rcases wipeE_in h1 with ⟨h1, _⟩ | ⟨h1, hj⟩
            · cases h1
            · have hj' : j ∉ js := fun m => hj (hjs j m)
              have e4 := sm.env j hj'
              rw [wipeE_out h1 hj] at e4
              obtain ⟨c', h3, h4, _⟩ := f4.v.own j dj e4
              rw [sm.out j hj', h2] at h3
              cases h3
              exact .inl h4
        refine ⟨xs, hx6, by rw [rx6.length]; exact hz, xs ++ [u], acc ++ [p], upd_same, ?_, v6.outer (.inr rfl) nbA (fun o ho z => by rw [hx6] at z; cases z; exact ho), fun a o e n => ?_, q6⟩
        · have mv : ∀ c o, H6 c = some o → ¬ (Z c ∨ c = A) → upd H6 A (.lst (xs ++ [u])) c = some o := fun c o e n => by rw [upd_ne (fun q => n (.inr q))]; exact e
          exact (rx6.mono (fun _ z => .inl z) mv).append (.cons (Rq.mono (fun _ z => .inl z) mv r7) .nil)
        · rw [upd_ne (ne_of_none e hA)]
          exact x6 a o (st5 a o e n) n
    · have e : ds.length = i := by omega
      rw [List.drop_eq_nil_of_le (by omega)] at q'
      refine .inl ⟨wk.stop i H' e st, ?_⟩
      have xx : Ex b H H' := fun a o e n => st a o (x1 a o e n) n
      exact l _ H' (.py (.list acc)) xx v'.g ⟨A, rfl, hA0, xs, hx, rx⟩ q', m⟩
end
section
variable {X : Cx} {b : Bg} {W : WX} {tg iter elt c : Expr} {ifs : List Expr} {scope : Scope} {own : List (Str × Nat)} {pos spos py : Pos} {ti : VIt} {js : List Nat} {g : VTg} {tt : VB} {te : VT} {i : Nat} {y : Str}
/-- a block's tests -/
def VTs (X : Cx) (b : Bg) (ifs : List Expr) (t : VB) : Prop := PTs X ifs (LB b noW t)
theorem pts_mono {t t' : TT} (h : PTs X ifs t) (m : ∀ σ H Q, t' σ H Q → t σ H Q) : PTs X ifs t' := ⟨fun pins s σ H Q I q => h.run pins s σ H Q I (m σ H Q q)⟩
theorem vts_nil : VTs X b [] wYes := pts_mono pts_nil fun σ H Q ⟨Zo, Z, ρ, Qd, Ed, v, q, l, _⟩ => l true H Ex.refl v.g q
theorem vts_one (h : VTe X b noW c tt) : VTs X b [c] tt := pts_one h
theorem vn_lc (hc : X.calm = true) (hN : X.N.Nodup) (hi : VIb X b W tg iter ti) (ok : BlkOk X.N X.env.scope scope own) (hjs : ∀ j ∈ js, j ∈ own.map (·.2))
    (hg : ∀ (s : Shared) (H : Hp) (C : Addr) (cl : List (Str × Addr)) (fp : List Addr), VG (X.blk s H scope (compEnvC scope cl C X.env) fp) b tg js g) (ht : ∀ (s : Shared) (H : Hp) (C : Addr) (cl : List (Str × Addr)) (fp : List Addr), VTs (X.blk s H scope (compEnvC scope cl C X.env) fp) b ifs tt)
    (he : ∀ (s : Shared) (H : Hp) (C : Addr) (cl : List (Str × Addr)) (fp : List Addr), VE (X.blk s H scope (compEnvC scope cl C X.env) fp) b noW elt te) (hs : ∀ x, foldedSetIterable iter X.env x = pure x := by intro _; rfl) :
    VN X b W (.ListComp elt [⟨tg, iter, ifs, 0⟩] scope pos) (vLc (own.map (·.2)) ti g tt te) :=
  pe_mono (pe_lc hc hN hi ok hg ht he hs) (lc_sound hjs)
theorem vs_setLc (hc : X.calm = true) (hN : X.N.Nodup) (hy : X.N[i]? = some y) (hyl : X.env.scope.names.lookup y = some .local) (hsw : swapsWith (.ListComp elt [⟨tg, iter, ifs, 0⟩] scope pos) (some (.Name y py)) spos.line X.env = pure true)
    (hi : VIb X b W tg iter ti) (ok : BlkOk X.N X.env.scope scope own) (hjs : ∀ j ∈ js, j ∈ own.map (·.2))
    (hg : ∀ (s : Shared) (H : Hp) (C : Addr) (cl : List (Str × Addr)) (fp : List Addr), VG (X.blk s H scope (compEnvC scope cl C X.env) fp) b tg js g) (ht : ∀ (s : Shared) (H : Hp) (C : Addr) (cl : List (Str × Addr)) (fp : List Addr), VTs (X.blk s H scope (compEnvC scope cl C X.env) fp) b ifs tt)
    (he : ∀ (s : Shared) (H : Hp) (C : Addr) (cl : List (Str × Addr)) (fp : List Addr), VE (X.blk s H scope (compEnvC scope cl C X.env) fp) b noW elt te) (hs : ∀ x, foldedSetIterable iter X.env x = pure x := by intro _; rfl) :
    VSt X b W (.Assign [.Name y py] (.ListComp elt [⟨tg, iter, ifs, 0⟩] scope pos) spos) (sSetN i (vLc (own.map (·.2)) ti g tt te)) :=
  vs_setN (ps_setLc hc hN hy hyl hsw hi ok hg ht he hs) (lc_sound hjs)
end
end VL
set_option Elab.async false
set_option linter.all false
set_option maxRecDepth 100000
set_option maxHeartbeats 4000000
namespace VL
open PySem PySem.Spec PyProof.Rows L2
/-! ### what a def promises, by values -/
abbrev SV := List D → (D → Prop) → (Er → Prop) → Prop
def spV (b : Bg) (S : SV) : Sp := fun vs H Q E => ∃ Z ds Qd Ed, Gd b Z H ∧ Rps b Z H vs ds ∧ S ds Qd Ed ∧ (∀ v H' d, Ex b H H' → b.G H' → Rp b Z H' v d → Qd d → Q v H') ∧ ∀ c x H' er, Ex b H H' → b.G H' → ErRp b Z H' c x er → Ed er → E c x H'
/-- the ends of a def's body -/
@[simp] def fin (Q : D → Prop) (E : Er → Prop) : VEnds := { nx := fun _ => Q (.py .none), rt := Q, bk := fun _ => False, ct := fun _ => False, ex := fun _ => E }
/-- the names' values at the entry -/
@[simp] def envOf (n : Nat) (ds : List D) : VEnv := ds.map Slot.shr ++ List.replicate (n - ds.length) .un
theorem Rps.at {b : Bg} {Z : Addr → Prop} {H : Hp} : ∀ {vs : List V} {ds : List D} {i : Nat} {d : D}, Rps b Z H vs ds → ds[i]? = some d → ∃ v, vs[i]? = some v ∧ Rp b Z H v d
  | _, _, _, _, .nil, e => by simp at e
  | _, _, 0, _, .cons r _, e => by simp at e; subst e; exact ⟨_, rfl, r⟩
  | _, _, i + 1, _, .cons _ t, e => by
    obtain ⟨y, h1, h2⟩ := Rps.at (i := i) t (by simpa using e)
    exact ⟨y, by simpa using h1, h2⟩
theorem envOf_at {n i : Nat} {ds : List D} {s : Slot} (h : (envOf n ds)[i]? = some s) : s = .un ∨ ∃ d, s = .shr d ∧ ds[i]? = some d := by
  unfold envOf at h
  by_cases hi : i < ds.length
  · rw [List.getElem?_append_left (by simpa using hi), List.getElem?_map] at h
    cases e : ds[i]? with
    | none => rw [e] at h; cases h
    | some d => rw [e] at h; cases h; exact .inr ⟨d, rfl, rfl⟩
  · rw [List.getElem?_append_right (by simpa using hi), List.getElem?_replicate] at h
    split at h
    · cases h; exact .inl rfl
    · cases h
theorem VOk.entry {b : Bg} {Z : Addr → Prop} {H : Hp} {N : List Str} {vs : List V} {ds : List D} (g : Gd b Z H) (r : Rps b Z H vs ds) (hl : vs.length ≤ N.length) : VOk b Z Z (L2.start N vs) H (envOf N.length ds) where
  g := g.g
  zb := g.zb
  zo := fun _ z => z
  dom := g.dom
  zi := fun _ z => .inl z
  own := fun i d e => by
    rcases envOf_at e with h | ⟨d', h, _⟩ <;> cases h
  inj := fun i j d e a h1 _ _ _ => by
    rcases envOf_at h1 with h | ⟨d', h, _⟩ <;> cases h
  shr := fun i d e => by
    rcases envOf_at e with h | ⟨d', h, hd⟩
    · cases h
    · cases h
      obtain ⟨v, hv, rv⟩ := r.at hd
      refine ⟨v, ?_, rv⟩
      unfold L2.start
      have hi : i < vs.length := (List.getElem?_eq_some_iff.mp hv).1
      rw [List.getElem?_append_left (by simpa using hi), List.getElem?_map, hv]
      rfl
  len := by
    unfold envOf L2.start
    rw [List.length_append, List.length_map, List.length_replicate, List.length_append, List.length_map, List.length_replicate, ← r.length]
abbrev WF (E : XK) : WX := fun c d _ H => E c d H
section
variable {P : Program} {w : World} {K : PySem.W.Frag} {mg : Str → Option Value} {base : Heap} {b : Bg} {k : Nat} {x qual : Str} {st : Stmt} {f : Addr} {fd : FuncData} {N ps : List Str} {S : SV}
theorem fin_link {t : VS} {H : Hp} {vs : List V} {Q : VK} {E : XK} (hlaw : ∀ ds Q E, S ds Q E → t (envOf N.length ds) (fin Q E)) (hl : vs.length ≤ N.length) (h : spV b S vs H Q E) :
    LS b (WF E) t { nx := fun _ H' => Q .non H', rt := Q } (L2.start N vs) H := by
  obtain ⟨Z, ds, Qd, Ed, g, r, s, l, m⟩ := h
  have x : ∀ {H'}, (∀ a o, H a = some o → ¬ b.B a → ¬ False → H' a = some o) → Ex b H H' := fun h a o e n => h a o e n not_false
  refine ⟨H, fun _ => False, Z, Z, envOf N.length ds, fin Qd Ed, ⟨VOk.entry g r hl, fun _ _ e _ _ => e, fun i d a e _ => ?_⟩, hlaw ds Qd Ed s, ⟨fun Z' σ' H' ρ' f' q => l .non H' (.py .none) (x f'.ext) f'.v.g Rq.non q, fun v H' d x1 g1 r1 q => l v H' d (x x1) g1 r1 q, fun _ _ _ _ _ q => q.elim, fun _ _ _ _ _ q => q.elim, fun c y Z' σ' H' ρ' er f' r' q => m c y H' er (x f'.ext) f'.v.g ?_ q⟩⟩
  · rcases envOf_at e with h | ⟨d', h, _⟩ <;> cases h
  · obtain ⟨h1, h2⟩ := r'
    refine ⟨h1, h2.imp id ?_⟩
    rintro ⟨a, xs, e1, e2, e3, e4⟩
    exact ⟨a, xs, e1, e2, fun z => e3 (f'.v.zo a z), e4.mono (fun c z => .inl (f'.v.zo c z)) fun _ _ e _ => e⟩
/-- a def of the text, by its body -/
theorem fnV (F : Fun K x qual st f fd) (Sc : FnScope N ps (defScope st)) {t : VS} (hlen : ∀ ds Q E, S ds Q E → ds.length = ps.length) (hps : ps.length ≤ N.length)
    (hbody : ∀ (cdv : Value) (A : Around) (outer : List Env) (s : Shared) (H : Hp) (E : XK), Room k (A.deeper (envOfC qual (defScope st) s.heap.objs.size f cdv)) →
      Takes (cxOf (L2.CX P w) P w K mg base N qual (defScope st) f cdv A outer s H E) (WF E) → VSs (cxOf (L2.CX P w) P w K mg base N qual (defScope st) f cdv A outer s H E) b (WF E) (defBody st) t)
    (hlaw : ∀ ds Q E, S ds Q E → t (envOf N.length ds) (fin Q E)) : FnOk P w K mg base (L2.CX P w) (k + 1) f fd ps (spV b S) := by
  have len : ∀ vs H Q E, spV b S vs H Q E → vs.length = ps.length := fun vs H Q E ⟨Z, ds, Qd, Ed, g, r, s, _⟩ => r.length.trans (hlen ds Qd Ed s)
  refine F.okX Sc len fun cdv A outer s H vs Q E hr h => ⟨_, hbody cdv A outer s H E hr (takes_of rfl rfl rfl rfl), fin_link hlaw (Nat.le_trans (Nat.le_of_eq (len _ _ _ _ h)) hps) h⟩
end
/-! ### calls -/
@[simp] def vCall (S : SV) (u : VA) : VT := fun ρ Q E => u ρ (fun ds => S ds Q E) E
section
variable {X : Cx} {b : Bg} {W : WX} {k : Nat} {f : Addr} {fd : FuncData} {ps : List Str} {S : SV} {x : Str} {e : Expr} {es : List Expr} {u : VA} {p pos : Pos}
theorem call_core {sp : Sp} {t : TA} (hu : t = LA b W u) (hs : sp = spV b S) : ∀ σ H Q, LE b W (RE b) (vCall S u) σ H Q → tCallS sp (WE W) t σ H Q := by
  subst hu hs
  exact fun σ H Q ⟨Zo, Z, ρ, Qd, Ed, v, q, l, m⟩ => ⟨Zo, Z, ρ, _, Ed, v, q, fun vs H1 ds x1 g1 r1 q1 => by
    have v1 := v.ex x1 g1
    exact ⟨Z, ds, Qd, Ed, v1.gd, r1, q1, fun y H2 d x2 g2 r2 q2 => l y H2 d (x1.trans x2) g2 r2 q2, fun c z H2 er x2 g2 r2 q2 => m c z H2 er (x1.trans x2) g2 r2 q2⟩, m⟩
theorem ve_call (F : FnOk X.prog X.w X.K X.mg X.base (L2.CX X.prog X.w) k f fd ps (spV b S)) (hr : Room k X.A) (tk : Takes X W) (hg : Gl X x) (hm : X.mg x = some (.ref f)) (hk : PySem.W.keepIn X.K (.ref f) = true) (hb : Binds X.K fd ps [])
    (ha : VAs X b W (e :: es) u) (hdb : (x == ("__debug__" : Str)) = false := by decide) (he : starEach (e :: es) X.env = (false, eval e X.env) :: starEach es X.env := by rfl) (hpl : (backTo pos (starEach es X.env)).any (·.1) = false := by rfl) :
    VE X b W (.Call (.Name x p) (e :: es) [] pos) (vCall S u) := pe_mono (pe_callS F hr hg hm hk hb (passAt tk) ha hdb he hpl) (call_core rfl rfl)
/-- a constant of the module -/
theorem ve_glob {v : V} {d : PyData} {uu : Value} (hg : Gl X x) (hm : X.mg x = some uu) (r : RelV v uu) (rd : ∀ (Z : Addr → Prop) (H : Hp), Rq Z H v d) (hd : (x == ("__debug__" : Str)) = false := by decide) : VE X b W (.Name x pos) (vC (.py d)) :=
  ve_const (pe_glob hg hm r hd) rd
end
end VL
set_option Elab.async false
set_option linter.all false
set_option maxRecDepth 100000
set_option maxHeartbeats 4000000
namespace VL
open PySem PySem.Spec PyProof.Rows L2
/-! ### repr of plain data (dicts among it: none of the tracked dicts is the modules' own) -/
section
variable {X : Cx} {pins : List (Addr × Obj)} {σ : L2.St} {H : Hp} {s : Shared} {Z : Addr → Prop}
/-- what is known of a value to be shown -/
structure Shw (P : Program) (w : World) (h : Heap) (u : Value) (d : PyData) : Prop where
  rd : ∃ as, Reads h u d as
  rk : d.showable = true → d.shown.length ≤ sizeLine → ∃ bs, ReadAtMost h d.depth bs ∧ ReprK P w bs h d.depth u d.shown
  top : d.showable = true → d.shown.length ≤ sizeLine → ∀ (A : Around) (E : Value → Shared → Prop) (s : Shared) (Q : Value → Shared → Prop), A.guards = some [] → A.units + (d.depth + 1) < cLine → (∀ b o, h.get? b = some o → s.heap.get? b = some o) →
    (∀ h' u tk, (∀ b o, s.heap.get? b = some o → h'.get? b = some o) → Q (.str d.shown u) { s with heap := h', toks := tk }) → wpAny (model P w) A (call (.builtin "repr") [u]) Q E s
structure ShwA (P : Program) (w : World) (h : Heap) (us : List Value) (ds : List PyData) : Prop where
  rd : ∃ as, ReadsAll h us ds as
  rk : PyData.showableAll ds = true → (∀ t ∈ PyData.shownAll ds, t.length ≤ sizeLine) → ∃ bs, ReadAtMost h (PyData.depthAll ds) bs ∧ ReprAllK P w bs h (PyData.depthAll ds) us (PyData.shownAll ds)
theorem ShwA.nil {P : Program} {w : World} {h : Heap} : ShwA P w h [] [] := ⟨⟨_, .nil⟩, fun _ _ => ⟨[], (fun _ m => nomatch m), by simp only [PyData.shownAll]; exact .nil⟩⟩
theorem ShwA.cons {P : Program} {w : World} {h : Heap} {u : Value} {d : PyData} {us : List Value} {ds : List PyData} (a : Shw P w h u d) (l : ShwA P w h us ds) : ShwA P w h (u :: us) (d :: ds) := by
  refine ⟨?_, fun hs hz => ?_⟩
  · obtain ⟨as, ra⟩ := a.rd
    obtain ⟨bs, rb⟩ := l.rd
    exact ⟨_, .cons ra rb⟩
  · simp only [PyData.showableAll, Bool.and_eq_true] at hs
    simp only [PyData.shownAll] at hz
    obtain ⟨b1, m1, k1⟩ := a.rk hs.1 (hz _ List.mem_cons_self)
    obtain ⟨b2, m2, k2⟩ := l.rk hs.2 fun t ht => hz t (List.mem_cons_of_mem _ ht)
    have e1 : d.depth ≤ max d.depth (PyData.depthAll ds) := Nat.le_max_left _ _
    have e2 : PyData.depthAll ds ≤ max d.depth (PyData.depthAll ds) := Nat.le_max_right _ _
    refine ⟨b1 ++ b2, ?_, ?_⟩
    · simp only [PyData.depthAll]
      exact (m1.mono e1).append (m2.mono e2)
    · simp only [PyData.depthAll, PyData.shownAll]
      exact .cons ((k1.more fun b hb => List.mem_append.mpr (.inl hb)).level_le e1) (k2.more_le (fun b hb => List.mem_append.mpr (.inr hb)) e2)
section
variable {P : Program} {w : World} {h : Heap} {a : Addr} {o : Obj} {n : Nat}
theorem Shw.list {us : List Value} {ds : List PyData} (h1 : h.get? a = some o) (h2 : o.cls = .type "list") (h3 : o.data = .seq us.toArray n) (l : ShwA P w h us ds) : Shw P w h (.ref a) (.list ds) := by
  obtain ⟨as, ra⟩ := l.rd
  have r : Reads h (.ref a) (.list ds) _ := .list h1 h2 h3 ra
  refine ⟨⟨_, r⟩, fun hs hz => ?_, fun hs hz A E s Q hg hu hk hQ => ?_⟩
  rotate_left
  · simp only [PyData.showable] at hs
    simp only [PyData.shown] at hz hQ
    simp only [PyData.depth] at hu
    obtain ⟨bs, mb, kb⟩ := l.rk hs fun t ht => Nat.le_trans (listText_mem_le ht) hz
    have na : a ∉ bs := not_mem_of_deeper r (by simp only [PyData.depth]; omega) mb
    refine call_repr_slot (T := "list") (by omega) ⟨o, hk _ _ h1, h2⟩ F.slot_list_repr.toG ?_
    cases us with
    | nil =>
      cases ra
      simp only [PyData.shownAll, listText_nil] at hQ
      exact call_list_repr_empty ⟨o, hk _ _ h1, h2⟩ (hk _ _ h1) h3 ⟨_, _, rfl, hQ s.heap _ _ fun _ _ e => e⟩
    | cons u us => exact call_list_reprK h1 h2 h3 na (by simpa using kb.length_eq) (fun i y e => kb.item i y (by simpa using e)) hg (fun b _ => Clear.nil b) (by show A.units + 1 + _ < cLine; omega) hk (fun h' u tk kp => ⟨_, _, rfl, hQ h' u tk kp⟩) hz
  simp only [PyData.showable] at hs
  simp only [PyData.shown] at hz
  obtain ⟨bs, mb, kb⟩ := l.rk hs fun t ht => Nat.le_trans (listText_mem_le ht) hz
  have na : a ∉ bs := not_mem_of_deeper r (by simp only [PyData.depth]; omega) mb
  refine ⟨a :: bs, ReadAtMost.cons r (by simp only [PyData.depth]; omega) mb, ?_⟩
  simp only [PyData.depth, PyData.shown]
  cases us with
  | nil =>
    cases ra
    simp only [PyData.shownAll, listText_nil]
    exact ReprK.listEmpty h1 h2 h3
  | cons u us => exact ReprK.list h1 h2 h3 na (by simpa using kb.length_eq) fun i y e => kb.item i y (by simpa using e)
theorem Shw.tuple {us : List Value} {ds : List PyData} (h1 : h.get? a = some o) (h2 : o.cls = .type "tuple") (h3 : o.data = .seq us.toArray n) (l : ShwA P w h us ds) : Shw P w h (.ref a) (.tuple ds) := by
  obtain ⟨as, ra⟩ := l.rd
  have r : Reads h (.ref a) (.tuple ds) _ := .tuple h1 h2 h3 ra
  refine ⟨⟨_, r⟩, fun hs hz => ?_, fun hs hz A E s Q hg hu hk hQ => ?_⟩
  rotate_left
  · simp only [PyData.showable] at hs
    simp only [PyData.shown] at hz hQ
    simp only [PyData.depth] at hu
    obtain ⟨bs, mb, kb⟩ := l.rk hs fun t ht => Nat.le_trans (tupleText_mem_le ht) hz
    refine call_repr_slot (T := "tuple") (by omega) ⟨o, hk _ _ h1, h2⟩ F.slot_tuple_repr ?_
    exact call_tuple_reprK h1 h2 h3 (not_mem_of_deeper r (by simp only [PyData.depth]; omega) mb) kb hg (fun b _ => Clear.nil b) (by show A.units + 1 + _ < cLine; omega) hk (fun h' u tk kp => ⟨_, _, rfl, hQ h' u tk kp⟩) hz
  simp only [PyData.showable] at hs
  simp only [PyData.shown] at hz
  obtain ⟨bs, mb, kb⟩ := l.rk hs fun t ht => Nat.le_trans (tupleText_mem_le ht) hz
  refine ⟨a :: bs, ReadAtMost.cons r (by simp only [PyData.depth]; omega) mb, ?_⟩
  simp only [PyData.depth, PyData.shown]
  exact ReprK.tuple h1 h2 h3 (not_mem_of_deeper r (by simp only [PyData.depth]; omega) mb) kb
theorem Shw.dict {es : Array DictEntry} {ds : List (PyData × PyData)} (h1 : h.get? a = some o) (h2 : o.cls = .type "dict") (h3 : o.data = .dict es n) (lo : (a == sysModules) = false) (lk : ShwA P w h (es.toList.map (·.key)) (ds.map (·.1))) (lv : ShwA P w h (es.toList.map (·.val)) (ds.map (·.2))) : Shw P w h (.ref a) (.dict ds) := by
  obtain ⟨as, ra⟩ := lk.rd
  obtain ⟨bs, rb⟩ := lv.rd
  have r : Reads h (.ref a) (.dict ds) _ := .dict h1 h2 h3 ra rb
  refine ⟨⟨_, r⟩, fun hs hz => ?_, fun hs hz A E s Q hg hu hk hQ => ?_⟩
  rotate_left
  · simp only [PyData.showable] at hs
    simp only [PyData.shown] at hz
    simp only [PyData.shown, PyData.shownKv_eq] at hQ
    simp only [PyData.depth] at hu
    obtain ⟨s1, s2⟩ := PyData.showableKv_split ds hs
    obtain ⟨b1, m1, k1⟩ := lk.rk s1 fun t ht => let ⟨p, hp, hl⟩ := PyData.shownKv_key_le ds t ht; Nat.le_trans hl (Nat.le_trans (dictText_mem_le hp) hz)
    obtain ⟨b2, m2, k2⟩ := lv.rk s2 fun t ht => let ⟨p, hp, hl⟩ := PyData.shownKv_val_le ds t ht; Nat.le_trans hl (Nat.le_trans (dictText_mem_le hp) hz)
    have m : ReadAtMost h (PyData.depthKv ds) (b1 ++ b2) := (m1.mono (PyData.depthAll_keys_le ds)).append (m2.mono (PyData.depthAll_vals_le ds))
    refine call_repr_slot (T := "dict") (by omega) ⟨o, hk _ _ h1, h2⟩ F.slot_dict_repr ?_
    exact call_dict_reprK h1 h2 h3 lo (not_mem_of_deeper r (by simp only [PyData.depth]; omega) m) (ReprEntriesK.of_two es.toList _ _ (k1.more_le (fun b hb => List.mem_append.mpr (.inl hb)) (PyData.depthAll_keys_le ds)) (k2.more_le (fun b hb => List.mem_append.mpr (.inr hb)) (PyData.depthAll_vals_le ds)))
      hg (fun b _ => Clear.nil b) (by show A.units + 1 + _ < cLine; omega) hk (fun h' u tk kp => ⟨_, _, rfl, hQ h' u tk kp⟩) (by rw [← PyData.shownKv_eq]; exact hz)
  simp only [PyData.showable] at hs
  simp only [PyData.shown] at hz
  obtain ⟨s1, s2⟩ := PyData.showableKv_split ds hs
  obtain ⟨b1, m1, k1⟩ := lk.rk s1 fun t ht => let ⟨p, hp, hl⟩ := PyData.shownKv_key_le ds t ht; Nat.le_trans hl (Nat.le_trans (dictText_mem_le hp) hz)
  obtain ⟨b2, m2, k2⟩ := lv.rk s2 fun t ht => let ⟨p, hp, hl⟩ := PyData.shownKv_val_le ds t ht; Nat.le_trans hl (Nat.le_trans (dictText_mem_le hp) hz)
  have m : ReadAtMost h (PyData.depthKv ds) (b1 ++ b2) := (m1.mono (PyData.depthAll_keys_le ds)).append (m2.mono (PyData.depthAll_vals_le ds))
  refine ⟨a :: (b1 ++ b2), ReadAtMost.cons r (by simp only [PyData.depth]; omega) m, ?_⟩
  simp only [PyData.depth, PyData.shown, PyData.shownKv_eq]
  exact ReprK.dict h1 h2 h3 lo (not_mem_of_deeper r (by simp only [PyData.depth]; omega) m) (ReprEntriesK.of_two es.toList _ _ (k1.more_le (fun b hb => List.mem_append.mpr (.inl hb)) (PyData.depthAll_keys_le ds)) (k2.more_le (fun b hb => List.mem_append.mpr (.inr hb)) (PyData.depthAll_vals_le ds)))
theorem Shw.leaf {u : Value} {d : PyData} {as : List Addr} (r : Reads h u d as) (k : d.showable = true → d.shown.length ≤ sizeLine → ReprIs P w u d.shown)
    (t : d.showable = true → d.shown.length ≤ sizeLine → ∀ (A : Around) (E : Value → Shared → Prop) (s : Shared) (Q : Value → Shared → Prop), Q (.str d.shown s.toks) { s with toks := s.toks + 1 } → wpAny (model P w) A (call (.builtin "repr") [u]) Q E s) : Shw P w h u d :=
  ⟨⟨_, r⟩, fun hs hz => ⟨[], (fun _ m => nomatch m), .of_is (k hs hz) _ _ _⟩, fun hs hz A E s Q _ _ _ hQ => t hs hz A E s Q (hQ s.heap _ _ fun _ _ e => e)⟩
theorem Shw.none : Shw P w h .none .none := .leaf .none (fun _ _ => ReprIs.none) fun _ _ A E s Q q => PySem.P.repr_of_none q
theorem Shw.bool (k : Bool) : Shw P w h (.bool k) (.bool k) := .leaf (.bool k) (fun _ _ => ReprIs.bool k) fun _ _ A E s Q q => PySem.P.repr_of_bool q
theorem Shw.int (i : Int) (t : Tok) : Shw P w h (.int i t) (.int i) := .leaf (.int i t) (fun hs _ => ReprIs.int t (by simpa [PyData.showable] using hs)) fun hs _ A E s Q q => PySem.P.repr_of_int (by simpa [PyData.showable] using hs) q
theorem Shw.str (x : Str) (t : Tok) : Shw P w h (.str x t) (.str x) := .leaf (.str x t) (fun _ hz => ReprIs.str x t (by simpa only [PyData.shown] using hz)) fun _ hz A E s Q q => PySem.P.repr_of_str (by simpa only [PyData.shown] using q) (by simpa only [PyData.shown] using hz)
end
theorem shwKeys {P : Program} {w : World} {h : Heap} : ∀ {es : List DictEntry} {kvs : List (Key × V)} {vs : List (Key × Value)}, KV kvs vs → Pairs (mixKind P w) es vs → ShwA P w h (es.map (·.key)) (kvs.map fun p => kD p.1) ∧ Vals (kvs.map (·.2)) (es.map (·.val))
  | _, _, _, .nil, .nil => ⟨.nil, .nil⟩
  | _, _, _, .cons (a := p) (b := q) r t, .cons (e := en) hk hv hp => by
    obtain ⟨l1, l2⟩ := shwKeys (h := h) t hp
    obtain ⟨p1, p2⟩ := p
    obtain ⟨q1, q2⟩ := q
    obtain ⟨r1, r2⟩ := r
    have r1' : p1 = q1 := r1
    subst r1'
    refine ⟨?_, .cons (show L2.RelV p2 en.val by rw [hv]; exact r2) l2⟩
    rw [List.map_cons, List.map_cons]
    have kk : keyIs p1 en.key = true := hk
    rcases keyIs_shape kk with ⟨i, u, a1, a2⟩ | ⟨x, u, a1, a2⟩
    · subst a1
      rw [a2]
      exact .cons (.int i u) l1
    · subst a1
      rw [a2]
      exact .cons (.str x u) l1
mutual
theorem Rq.shw (I : Inv X pins σ H s) : ∀ {v : V} {d : PyData}, Rq Z H v d → ∀ u, RelV v u → Shw X.prog X.w s.heap u d
  | _, _, .non, _, r => by cases r; exact .none
  | _, _, .bl k, _, r => by cases r; exact .bool k
  | _, _, .int i, _, r => by obtain ⟨t, rfl⟩ := r; exact .int i t
  | _, _, .str x, _, r => by obtain ⟨t, rfl⟩ := r; exact .str x t
  | _, _, .lst e _ q, _, r => by
    cases r
    obtain ⟨its, rv, ⟨o, m, ho, hc, _, hd⟩, _⟩ := I.list (SqL.of e)
    exact .list ho hc hd (Rqs.shw I q _ rv)
  | _, _, .tup e _ _ q, _, r => by
    cases r
    obtain ⟨its, rv, ⟨o, ho, hc, m, hd⟩, _⟩ := I.tuple (SqT.th e)
    exact .tuple ho hc hd (Rqs.shw I q _ rv)
  | _, _, .dct e _ q, _, r => by
    cases r
    obtain ⟨_, lo, vs, kv, o, es, ep, ho, he, hd, _, hp, _⟩ := dk_of I.hok e
    obtain ⟨k1, k2⟩ := shwKeys (P := X.prog) (w := X.w) (h := s.heap) kv hp
    obtain ⟨l2, l3⟩ := Rqk.shw I q _ k2
    rw [l3] at k1
    exact .dict ho he.1 hd lo k1 l2
theorem Rqs.shw (I : Inv X pins σ H s) : ∀ {v : List V} {d : List PyData}, Rqs Z H v d → ∀ u, Vals v u → ShwA X.prog X.w s.heap u d
  | _, _, .nil, _, r => by cases r; exact .nil
  | _, _, .cons q t, _, r => by
    cases r with
    | cons r rr => exact .cons (Rq.shw I q _ r) (Rqs.shw I t _ rr)
theorem Rqk.shw (I : Inv X pins σ H s) : ∀ {v : List (Key × V)} {d : List (PyData × PyData)}, Rqk Z H v d → ∀ u, Vals (v.map (·.2)) u → ShwA X.prog X.w s.heap u (d.map (·.2)) ∧ v.map (fun p => kD p.1) = d.map (·.1)
  | _, _, .nil, _, r => by cases r; exact ⟨.nil, rfl⟩
  | _, _, .cons q t, _, r => by
    cases r with
    | cons r rr =>
      obtain ⟨h1, h2⟩ := Rqk.shw I t _ rr
      exact ⟨.cons (Rq.shw I q _ r) h1, by rw [List.map_cons, List.map_cons, h2]⟩
end
end
section
variable {X : Cx} {b : Bg} {W : WX} {e : Expr} {u : VA} {p pos : Pos}
/-- data that repr can show here -/
structure ReprOk (d : PyData) : Prop where
  sh : d.showable = true
  len : d.shown.length ≤ sizeLine
  dep : d.depth ≤ 40
@[simp] def gRepr : List D → (D → Prop) → Prop
  | [.py d], Q => ReprOk d ∧ Q (.py (.str d.shown))
  | _, _ => False
def rRepr : List V → Hp → VK → Prop := fun xs H Q => ∃ v d, xs = [v] ∧ Rq nz H v d ∧ d.showable = true ∧ d.shown.length ≤ sizeLine ∧ d.depth ≤ 40 ∧ Q (.str d.shown) H
theorem call_repr (hu : X.A.units + 64 < cLine) (hg : X.A.guards = some []) : CallR X (.builtin "repr") rRepr := by
  intro pins s σ H xs us Q I r ⟨v, d, e, q, h1, h2, h3, k⟩
  subst e
  obtain ⟨u, rfl, ru⟩ := vals1 r
  refine (Rq.shw I q _ ru).top h1 h2 X.A X.xe s _ hg (by omega) (fun _ _ e => e) fun h' t tk kp => ⟨.str d.shown, H, I.kept (t' := tk) kp, ⟨t, rfl⟩, k⟩
theorem rd_repr : CalD b (RE b) rRepr gRepr := by
  intro Z H vs ds Q Qd gd rx h k
  match ds, h, rx with
  | [.py d], ⟨⟨h1, h2, h3⟩, h⟩, rx =>
    obtain ⟨x, rfl, r⟩ := rx.one
    exact ⟨x, d, rfl, r.q, h1, h2, h3, k _ H (.py (.str _)) Ex.refl gd.g (.str _) h⟩
theorem ve_repr (hu : X.A.units + 64 < cLine) (hgd : X.A.guards = some []) (hg : Gl X "repr") (hm : X.mg "repr" = none) (ha : VXs X b W [e] u) (he : starEach [e] X.env = (false, eval e X.env) :: starEach [] X.env := by rfl) (hpl : (backTo pos (starEach [] X.env)).any (·.1) = false := by rfl) :
    VE X b W (.Call (.Name "repr" p) [e] [] pos) (vCal gRepr u) := ve_callB (call_repr hu hgd) rd_repr hg hm (by decide +kernel) ha (by decide) (by decide) he hpl
end
end VL
set_option Elab.async false
set_option linter.all false
set_option maxRecDepth 100000
set_option maxHeartbeats 4000000
namespace VL
open PySem PySem.Spec PyProof.Rows L2
/-! ### the law itself: called where nothing is being shown -/
structure FnG (P : Program) (w : World) (K : PySem.W.Frag) (mg : Str → Option Value) (base : Heap) (k : Nat) (f : Addr) (fd : FuncData) (ps : List Str) (sp : Sp) : Prop where
  run : ∀ (A : Around) (outer : List Env) (s : Shared) (H : Hp) (args : Args) (us : List Value) (vs : List V) (Q : VK) (E : XK), Room k A → A.guards = some [] → Env0 P w K mg base A outer s H → BindsTo s fd args (ps.zip us) → Vals vs us → sp vs H Q E →
    codeAny (model P w) A (.call (.ref f) args) (CR (L2.CX P w) outer P w H s Q E) s
section
variable {P : Program} {w : World} {K : PySem.W.Frag} {mg : Str → Option Value} {base : Heap} {k : Nat} {x qual : Str} {st : Stmt} {f : Addr} {fd : FuncData} {N ps : List Str} {sp : Sp}
theorem fnG (F : Fun K x qual st f fd) (S : FnScope N ps (defScope st)) (len : ∀ vs H Q E, sp vs H Q E → vs.length = ps.length)
    (hbody : ∀ (cdv : Value) (A : Around) (outer : List Env) (s : Shared) (H : Hp) (vs : List V) (Q : VK) (E : XK), Room k (A.deeper (envOfC qual (defScope st) s.heap.objs.size f cdv)) → (A.deeper (envOfC qual (defScope st) s.heap.objs.size f cdv)).guards = some [] → sp vs H Q E →
      ∃ t, PSs (cxOf (L2.CX P w) P w K mg base N qual (defScope st) f cdv A outer s H E) (defBody st) t ∧ t { nx := fun _ H' => Q .non H', rt := Q } (L2.start N vs) H) : FnG P w K mg base (k + 1) f fd ps sp := by
  obtain ⟨oc, od, kV, doc, pm, an, cdv, ct, osl, rfl, lk, hcd⟩ := F.ex
  refine ⟨fun A outer s H args us vs Q E hr hgd e0 hb rv hsp => ?_⟩
  have nl : s.heap.NoLimit := e0.mod.nolimit.keeps fun b o e => (e0.bs b o e).1
  have kin : K.In s.heap := e0.mod.kin.keeps fun b o e => (e0.bs b o e).1
  have kinds : ∀ y ∈ ps.zip us, (defScope st).names.lookup y.1 = some .local ∨ ((defScope st).names.lookup y.1 = some .cell ∧ ((cellsFrom (s.heap.objs.size + 1) (defScope st).names []).lookup y.1).isSome = true) := fun ⟨n, v⟩ hy =>
    (S.par n (List.of_mem_zip hy).1).imp id fun q => ⟨q, PySem.W.cellsFrom_some _ _ _ (.inl q)⟩
  refine codeAny_call_function hr.depth (kin _ _ lk) rfl S.co S.gen rfl (PySem.W.codeRec_of kin hcd) (hb _ _ _ _ (wpAny_newFunctionEnv_cells S.kind kinds fun env he s1 ic => ?_))
  subst he
  refine ⟨nl.keeps ic.toInCall.keep, codeAny_func ?_⟩
  obtain ⟨t, ht, hq⟩ := hbody cdv A outer s H vs Q E (hr.deeper _) hgd hsp
  refine wpAny_mono (ht.run [] s1 (L2.start N vs) H _ (inv_start S hr.hd e0 (len _ _ _ _ hsp) rv ic) hq) (fun fl s' hs => ?_) fun e s' hs => hs
  cases fl with
  | ret u =>
    obtain ⟨v, σ', H', J, rv', q⟩ := hs
    exact ⟨v, H', J.os, J.bare, J.base, J.hok, rv', q⟩
  | next =>
    obtain ⟨σ', H', J, q⟩ := hs
    exact ⟨.non, H', J.os, J.bare, J.base, J.hok, rfl, q⟩
  | brk => exact hs.elim fun _ h => h.elim fun _ h => h.2.elim
  | cont => exact hs.elim fun _ h => h.elim fun _ h => h.2.elim
end
/-- at the heap behind the top -/
theorem lawG {P : Program} {w : World} {K : PySem.W.Frag} {mg mb : Str → Option Value} {k : Nat} {fa a : Addr} {fd : FuncData} {x : Str} {sp : Sp} {s0 : Shared} {vs : List Value} {ns : List Int}
    (KX : K.In s0.heap) (hns : s0.heap.Ns mainGlobals mg) (hb : s0.heap.Ns builtinsNs mb) (hbb : ∀ x : Str, x ≠ "__name__" → mb x = bootBuiltins x) (hlim : s0.heap.NoLimit) (hgens : s0.gens = #[])
    (ha : s0.heap.get? a = some { cls := .type "list", data := .seq vs.toArray }) (hi : IntsAre vs ns) (hl : ns.length ≤ sizeLine) (hr : Room k callerA)
    (F : ∀ base : Heap, K.In base → base.Ns mainGlobals mg → FnG P w K mg base k fa fd [x] sp) (hbind : ∀ (s : Shared) (u : Value), BindsTo s fd ⟨[u], []⟩ [(x, u)])
    (hsp : ∀ H : Hp, Only H → SqL K H a (ns.map V.int) → sp [.ref a] H (fun v _ => v = .bl true) fun _ _ _ => False) :
    codeAny (model P w) callerA (.call (.ref fa) ⟨[.ref a], []⟩) (fun r s' => r = .ok (.ret (.bool true)) ∧ OldK s0.heap s'.heap ∧ s'.os = s0.os ∧ AllBare s'.gens) s0 := by
  have rv := vals_ints hi
  -- whatever is tracked is the script
  have go : ∀ H : Hp, Only H → SqL K H a (ns.map V.int) → HOk P w H s0.heap → (∀ b, H b ≠ none → b = a) → (H a ≠ none → K.lookup a = none) →
      codeAny (model P w) callerA (.call (.ref fa) ⟨[.ref a], []⟩) (fun r s' => r = .ok (.ret (.bool true)) ∧ OldK s0.heap s'.heap ∧ s'.os = s0.os ∧ AllBare s'.gens) s0 := by
    intro H hO hS hok hA hK
    have only_a : ∀ {b : Addr} {u : HO}, H b = some u → b = a := fun {b u} q => hA b (by rw [q]; simp)
    have low : ∀ {b : Addr} {o : Obj}, s0.heap.get? b = some o → H b = none → (hidT s0.heap H).get? b = some o := fun e n => hidT_get e n
    have nsk : ∀ {b : Addr} {m : Str → Option Value}, s0.heap.Ns b m → (hidT s0.heap H).Ns b m := fun {b m} ⟨o, es, ep, e, d, r⟩ => ⟨o, es, ep, low e (by
      cases q : H b with
      | none => rfl
      | some u =>
        rw [only_a q, ha] at e
        cases e
        have d' : Data.seq vs.toArray _ = Data.dict es ep := d
        cases d'), d, r⟩
    have kb : K.In (hidT s0.heap H) := fun b o e => low (KX b o e) (by
      cases q : H b with
      | none => rfl
      | some u =>
        have eb := only_a q
        subst eb
        rw [hK (by rw [q]; simp)] at e
        cases e)
    obtain ⟨mc, c1, c2⟩ := hlim
    have env : Env0 P w K mg (hidT s0.heap H) callerA [] s0 H := ⟨rfl, ⟨kb, nsk hns, ⟨mb, nsk hb, hbb⟩, ⟨mc, nsk c1, c2⟩⟩, fun b o e => of_hidT e, Nat.le_of_eq (hidT_size _ _), trivial, (fun b m => nomatch (show b ∈ ([] : List Addr) from m)), hok, .of_eq hgens⟩
    refine codeAny_mono ((F _ kb (nsk hns)).run callerA [] s0 H ⟨[.ref a], []⟩ [.ref a] [.ref a] _ _ hr rfl env (hbind s0 (.ref a)) (.cons rfl .nil) (hsp H hO hS)) fun r s' h => ?_
    match r, h with
    | .error e, h => obtain ⟨_, _, _, _, _, _, _, _, _, _, _, _, z⟩ := h; exact z.elim
    | .ok .next, h => exact (show False from h).elim
    | .ok .brk, h => exact (show False from h).elim
    | .ok .cont, h => exact (show False from h).elim
    | .ok (.ret u), h =>
      obtain ⟨v, H', os, bare, un, hok', r', q⟩ := h
      have ev : v = .bl true := q
      subst ev
      obtain rfl : u = Value.bool true := r'
      refine ⟨rfl, OldK.of_keep fun b o e => ?_, os, bare⟩
      cases q : H b with
      | none => exact un.keep b o e q (fun z => nomatch (show b ∈ ([] : List Addr) from z)) (by simp)
      | some u =>
        rcases hO b with z | ⟨ob, xs, z⟩
        · rw [q] at z; cases z
        · obtain ⟨e1, _⟩ := hok b _ z
          obtain ⟨e2, _⟩ := hok' b _ (un.frzs b ob _ z)
          rw [e] at e1; cases e1
          exact e2
  cases hk : K.lookup a with
  | some o =>
    have e := KX a o hk
    rw [ha] at e
    cases e
    refine go (fun _ => none) (fun _ => .inl rfl) (.inr ⟨_, vs.toArray, _, hk, rfl, rfl, rfl, by rw [List.size_toArray, hi.length]; exact hl, by simpa using rv⟩) (fun b u z => nomatch (show (none : Option HO) = some u from z)) (fun b z => absurd rfl z) fun z => absurd rfl z
  | none =>
    have at1 : ∀ b, b ≠ a → (if b = a then some (HO.frz { cls := .type "list", data := .seq vs.toArray } (.lst (ns.map V.int))) else none) = none := fun b hb => if_neg hb
    refine go (fun b => if b = a then some (.frz { cls := .type "list", data := .seq vs.toArray } (.lst (ns.map V.int))) else none) (fun b => ?_) (.inl (.inr ⟨_, if_pos rfl⟩)) (fun b u z => ?_) (fun b z => Classical.byContradiction fun n => z (at1 b n)) fun _ => hk
    · by_cases hb : b = a
      · exact .inr ⟨_, _, if_pos hb⟩
      · exact .inl (at1 b hb)
    · by_cases hb : b = a
      · have z' := (if_pos hb).symm.trans z
        cases z'
        subst hb
        exact ⟨ha, by rw [List.length_map]; exact hl, vs, _, rv, ha⟩
      · have z' := (at1 b hb).symm.trans z
        cases z'
/-- the end -/
theorem walkG {l : PySem.W.OpenLaw} {n k : Nat} {q : Program} {loose : List Str} {XP : (Str → Option Value) → Heap → Prop} {YP : World → Heap → Prop} {d : DefRec} {K : Params → PySem.W.Frag} {sp : World → Sp} {x : Str}
    (hn : l.most = some n) (hn2 : n ≤ sizeLine) (hdf : d.params.defaults = []) (hr : Room k callerA) (hY : ∀ (w : World) (h : Heap), YP w h → (K w.params).In h)
    (F : ∀ (w : World) (mg : Str → Option Value) (fa : Addr) (h : Heap), (K w.params).In h → h.Ns mainGlobals mg → mg d.name = some (.ref fa) →
      ∃ fd : FuncData, (∀ (s : Shared) (u : Value), BindsTo s fd ⟨[u], []⟩ [(x, u)]) ∧ ∀ base : Heap, (K w.params).In base → base.Ns mainGlobals mg → FnG l.prog w (K w.params) mg base k fa fd [x] (sp w))
    (hsp : ∀ (w : World) (H : Hp) (a : Addr) (ns : List Int), ns.length ≤ n → Only H → SqL (K w.params) H a (ns.map V.int) → sp w [.ref a] H (fun v _ => v = .bl true) fun _ _ _ => False) :
    PySem.W.WalkO q loose XP YP l.row.toRowW d [] (fun f vs => PySem.call f vs) := by
  refine Att.attach_call hn hdf fun w s s0 mg mb fa o pm cd doc a vs ns G Y ho hd hcd hmg hobj hints hlen hg => ?_
  obtain ⟨fd, hb, hF⟩ := F w mg fa _ (hY w _ Y) G.T.g hmg
  exact lawG (hY w _ Y) G.T.g G.T.b G.T.builtins G.T.nolimit hg hobj hints (Nat.le_trans hlen hn2) hr hF hb fun H hO hS => hsp w H a ns hlen hO hS
end VL
set_option Elab.async false
set_option linter.all false
set_option maxRecDepth 100000
set_option maxHeartbeats 4000000
namespace VL
open PySem PySem.Spec PyProof.Rows L2
/-! ### // by a divisor below 2 ** 200 -/
def CDivB (i j : Int) : Prop := j ≠ 0 ∧ j.natAbs < 1606938044258990275541962092341162602522202993782792835301376
theorem op_fdivB {X : Cx} : OpR X (binaryOp .FloorDiv) (rI CDivB fun i j => .int (i.fdiv j)) := opI fun i j _ _ _ _ _ hc q => floordiv_int hc.1 q (.inl (PyProof.noPylong_of_log2 (by
  have h0 : j.natAbs ≠ 0 := by have := hc.1; omega
  have h := hc.2
  have h200 : j.natAbs.log2 < 200 := (Nat.log2_lt h0).mpr h
  omega)))
/-! ### a bag of drawn numbers: a dict with two lists, its own -/
abbrev kC : Key := .inr "cells"
/-- .. over values -/
@[simp] def svTake (r : Addr) : SV
  | [.raw v, .py (.int m)], Q, _ => v = .ref r ∧ 0 < m ∧ m < 1606938044258990275541962092341162602522202993782792835301376 ∧ ∀ x : Int, 0 ≤ x → x < m → Q (.py (.int x))
  | _, _, _ => False
theorem svTake_ex {r : Addr} : ∀ {ds : List D} {Q : D → Prop} {E : Er → Prop}, svTake r ds Q E → ∃ m : Int, ds = [.raw (.ref r), .py (.int m)] ∧ 0 < m ∧ m < 1606938044258990275541962092341162602522202993782792835301376 ∧ ∀ x : Int, 0 ≤ x → x < m → Q (.py (.int x))
  | [.raw v, .py (.int m)], _, _, ⟨e, h⟩ => ⟨m, by rw [e], h⟩
def AllIn (xs : List PyData) (R : PyData → Prop) : Prop := ∀ y ∈ xs, R y
/-- an item of a list or tuple, by a drawn number -/
@[simp] def svPick (r : Addr) : SV
  | [.raw v, .py (.list xs)], Q, _ => v = .ref r ∧ xs ≠ [] ∧ xs.length < 1606938044258990275541962092341162602522202993782792835301376 ∧ AllIn xs fun y => Q (.py y)
  | [.raw v, .py (.tuple xs)], Q, _ => v = .ref r ∧ xs ≠ [] ∧ xs.length < 1606938044258990275541962092341162602522202993782792835301376 ∧ AllIn xs fun y => Q (.py y)
  | [.raw v, .py (.str z)], Q, _ => v = .ref r ∧ z.length ≤ sizeLine ∧ signsD z ≠ [] ∧ AllIn (signsD z) fun y => Q (.py y)
  | _, _, _ => False
end VL
namespace VL
open PySem
theorem plain_ints (l : List Int) : PyData.plainAll (l.map PyData.int) = true := by
  induction l with
  | nil => rfl
  | cons a l ih => simp [PyData.plainAll, PyData.plain, ih]
end VL
namespace VL
open PySem PySem.Spec PyProof.Rows L2
theorem cut_ints (ns : List Int) (lo hi : Option Int) : ∃ ms : List Int, cutV (ns.map V.int) lo hi = ms.map V.int ∧ ms.length ≤ ns.length := by
  refine ⟨cutL ns lo hi, ?_, ?_⟩
  · unfold cutV cutL
    rw [List.length_map, List.map_take, List.map_drop]
  · unfold cutL
    rw [List.length_take, List.length_drop]
    omega
end VL
set_option Elab.async false
set_option linter.all false
set_option maxRecDepth 100000
set_option maxHeartbeats 4000000
namespace VL
open PySem PySem.Spec PyProof.Rows L2
open Sem (wp)
/-! ### x[::-1] -/
section
variable {prog : Program} {w : World} {A : Around} {E : Value → Shared → Prop} {s : Shared}
end
section
variable {X : Cx} {e st : Expr} {te : TE} {tl : TO} {p2 pos : Pos}
end
section
variable {X : Cx} {b : Bg} {W : WX} {e e1 e2 st : Expr} {t t1 t2 : VT} {tl : VO} {p2 pos : Pos}
@[simp] def gBk : D → (D → Prop) → Prop
  | .py (.list xs), Q => Q (.py (.list xs.reverse))
  | .py (.tuple xs), Q => Q (.py (.tuple xs.reverse))
  | _, _ => False
@[simp] def vBk (t : VT) (tl : VO) : VT := fun ρ Q E => t ρ (fun x => tl ρ (fun k => k = some (-1) ∧ gBk x Q) E) E
/-! ### products, minus -/
@[simp] def gMul : D → D → (D → Prop) → Prop
  | .py (.int i), .py (.int j), Q => CMul i j ∧ Q (.py (.int (i * j)))
  | .py (.list xs), .py (.int k), Q => (-(2 ^ 63) ≤ k ∧ k < 2 ^ 63 ∧ xs.length * k.toNat ≤ sizeLine) ∧ Q (.py (.list (List.replicate k.toNat xs).flatten))
  | .py (.tuple xs), .py (.int k), Q => (xs ≠ [] ∧ 2 ≤ k ∧ k ≤ 1000 ∧ xs.length ≤ 1000) ∧ Q (.py (.tuple (List.replicate k.toNat xs).flatten))
  | _, _, _ => False
@[simp] def gRepL : D → D → (D → Prop) → Prop
  | .py (.list xs), .py (.int k), Q => (-(2 ^ 63) ≤ k ∧ k < 2 ^ 63 ∧ xs.length * k.toNat ≤ sizeLine) ∧ Q (.py (.list (List.replicate k.toNat xs).flatten))
  | _, _, _ => False
theorem rn_rep : OpD b (RN b) rRep gRepL := by
  intro Z H x y dx dy Q Qd gd rx ry h k
  match dx, dy, h, rx, ry with
  | .py (.list xs), .py (.int n), ⟨⟨h1, h2, h3⟩, h⟩, rx, ry =>
    obtain ⟨a, us, rfl, ha, qa⟩ := rx.list
    refine ⟨a, n, us, rfl, ry.int, ha, h1, h2, by rw [qa.length]; exact h3, fun p hp => k _ _ (.py (.list _)) (Ex.new hp) (gd.new hp) ⟨p, rfl, hp, _, upd_same, (qa.rep n.toNat).up' hp⟩ h⟩
theorem rd_mul : OpD b (RE b) (fun x y H Q => rI CMul (fun i j => .int (i * j)) x y H Q ∨ (fun x y H Q => rRep x y H Q ∨ rRepF X.K x y H Q) x y H Q) gMul := by
  intro Z H x y dx dy Q Qd gd rx ry h k
  match dx, dy, h, rx, ry with
  | .py (.int i), .py (.int j), ⟨hc, h⟩, rx, ry =>
    rw [rx.int, ry.int]
    exact .inl ⟨i, j, rfl, rfl, hc, k _ H (.py (.int (i * j))) Ex.refl gd.g (.int _) h⟩
  | .py (.list xs), .py (.int n), h, rx, ry => exact .inr (.inl (OpD.toE rn_rep Z H x y (.py (.list xs)) (.py (.int n)) Q Qd gd rx ry h k))
  | .py (.tuple xs), .py (.int n), ⟨⟨h1, h2, h3, h4⟩, h⟩, rx, ry =>
    obtain ⟨a, oa, us, rfl, ha, da, na, qa⟩ := rx.tuple
    refine .inr (.inr ⟨a, n, us, rfl, ry.int, SqT.th ha, fun e => ?_, h2, h3, by rw [qa.length]; exact h4, fun p o hp ho => k _ _ (.py (.tuple _)) (Ex.new hp) (gd.new hp) (.tup upd_same ho (gd.fresh hp) ((qa.rep n.toNat).up hp)) h⟩)
    subst e
    cases qa
    exact h1 rfl
theorem vn_mul (h1 : VX X b W e1 t1) (h2 : VX X b W e2 t2) : VN X b W (.BinOp e1 .Mult e2 pos) (vBin gRepL t1 t2) := vn_op op_rep rn_rep h1 h2
@[simp] def gNeg : D → (D → Prop) → Prop
  | .py (.int i), Q => Q (.py (.int (-i)))
  | _, _ => False
theorem ve_neg (h : VX X b W e t) : VE X b W (.UnaryOp .USub e pos) (vUn gNeg t) :=
  pe_mono (pe_un un_neg h) fun σ H Q ⟨Zo, Z, ρ, Qd, Ed, v, q, l, m⟩ => ⟨Zo, Z, ρ, _, Ed, v, q, fun x H1 d x1 g1 r1 q1 => by
    match d, q1, r1 with
    | .py (.int i), q1, r1 => exact ⟨i, r1.int, l _ H1 (.py (.int (-i))) x1 g1 (Rq.int _) q1⟩, m⟩
/-! ### dict displays -/
@[simp] def vD0 : VT := fun _ Q _ => Q (.py (.dict []))
theorem vn_dict0 : VN X b W (.Dict [] [] pos) vD0 := pe_mono pe_dnewK fun σ H Q ⟨Zo, Z, ρ, Qd, Ed, v, q, l, m⟩ p hp => l _ _ (.py (.dict [])) (Ex.new hp) (Bg.new v.g hp) ⟨p, rfl, hp, [], upd_same, .nil⟩ q
@[simp] def vD1 (k : Key) (t : VT) : VT := fun ρ Q E => t ρ (fun d => ∃ p, d = .py p ∧ Q (.py (.dict [(kD k, p)]))) E
end
end VL
set_option Elab.async false
set_option linter.all false
set_option maxRecDepth 100000
set_option maxHeartbeats 4000000
namespace VL
open PySem PySem.Spec PyProof.Rows L2
theorem bb_int : bootBuiltins "int" = some (.type "int") := by decide +kernel
theorem bb_str : bootBuiltins "str" = some (.type "str") := by decide +kernel
theorem bb_bool : bootBuiltins "bool" = some (.type "bool") := by decide +kernel
theorem bb_tuple : bootBuiltins "tuple" = some (.type "tuple") := by decide +kernel
theorem bb_all : bootBuiltins "all" = some (.builtin "all") := by decide +kernel
theorem bb_max : bootBuiltins "max" = some (.builtin "max") := by decide +kernel
theorem bb_min : bootBuiltins "min" = some (.builtin "min") := by decide +kernel
theorem bb_isi : bootBuiltins "isinstance" = some (.builtin "isinstance") := by decide +kernel
section
variable {X : Cx} {b : Bg} {W : WX} {e : Expr} {es : List Expr} {u : VA} {p pos : Pos} {t : VT}
theorem ve_intC (hg : Gl X "int") (hm : X.mg "int" = none) (ha : VXs X b W (e :: es) u) (he : starEach (e :: es) X.env = (false, eval e X.env) :: starEach es X.env := by rfl) (hpl : (backTo pos (starEach es X.env)).any (·.1) = false := by rfl) :
    VE X b W (.Call (.Name "int" p) (e :: es) [] pos) (vCal gInt u) := ve_callTy (CallR.or call_int1 call_int_str) rd_int hg hm bb_int ha (by decide) (by decide) he hpl
theorem ve_tupleC (hg : Gl X "tuple") (hm : X.mg "tuple" = none) (ha : VXs X b W (e :: es) u) (he : starEach (e :: es) X.env = (false, eval e X.env) :: starEach es X.env := by rfl) (hpl : (backTo pos (starEach es X.env)).any (·.1) = false := by rfl) :
    VE X b W (.Call (.Name "tuple" p) (e :: es) [] pos) (vCal gTuple u) := ve_callTy call_tupF rd_tuple hg hm bb_tuple ha (by decide) (by decide) he hpl
theorem ve_isi (hg : Gl X "isinstance") (hm : X.mg "isinstance" = none) (ha : VXs X b W (e :: es) u) (he : starEach (e :: es) X.env = (false, eval e X.env) :: starEach es X.env := by rfl) (hpl : (backTo pos (starEach es X.env)).any (·.1) = false := by rfl) :
    VE X b W (.Call (.Name "isinstance" p) (e :: es) [] pos) (vCal gIsi u) := ve_callB call_isi rd_isi hg hm bb_isi ha (by decide) (by decide) he hpl
theorem ve_tyInt (hg : Gl X "int") (hm : X.mg "int" = none) : VE X b W (.Name "int" pos) (vC (.raw (.ty "int"))) := ve_ty hg hm bb_int
theorem ve_tyBool (hg : Gl X "bool") (hm : X.mg "bool" = none) : VE X b W (.Name "bool" pos) (vC (.raw (.ty "bool"))) := ve_ty hg hm bb_bool
theorem ve_tyStr (hg : Gl X "str") (hm : X.mg "str" = none) : VE X b W (.Name "str" pos) (vC (.raw (.ty "str"))) := ve_ty hg hm bb_str
theorem ve_tyTuple (hg : Gl X "tuple") (hm : X.mg "tuple" = none) : VE X b W (.Name "tuple" pos) (vC (.raw (.ty "tuple"))) := ve_ty hg hm bb_tuple
theorem ve_all (hc : X.calm = true) (hg : Gl X "all") (hm : X.mg "all" = none) (ha : VXs X b W (e :: es) u) (he : starEach (e :: es) X.env = (false, eval e X.env) :: starEach es X.env := by rfl) (hpl : (backTo pos (starEach es X.env)).any (·.1) = false := by rfl) :
    VE X b W (.Call (.Name "all" p) (e :: es) [] pos) (vCal gAll u) := ve_callB (cr_all hc) rd_all hg hm bb_all ha (by decide) (by decide) he hpl
theorem ve_max (hc : X.calm = true) (hg : Gl X "max") (hm : X.mg "max" = none) (ha : VXs X b W (e :: es) u) (he : starEach (e :: es) X.env = (false, eval e X.env) :: starEach es X.env := by rfl) (hpl : (backTo pos (starEach es X.env)).any (·.1) = false := by rfl) :
    VE X b W (.Call (.Name "max" p) (e :: es) [] pos) (vCal gMax u) := ve_callB (CallR.or (call_max2 hc) (cr_max hc)) rd_max hg hm bb_max ha (by decide) (by decide) he hpl
theorem ve_min (hc : X.calm = true) (hg : Gl X "min") (hm : X.mg "min" = none) (ha : VXs X b W (e :: es) u) (he : starEach (e :: es) X.env = (false, eval e X.env) :: starEach es X.env := by rfl) (hpl : (backTo pos (starEach es X.env)).any (·.1) = false := by rfl) :
    VE X b W (.Call (.Name "min" p) (e :: es) [] pos) (vCal gMin u) := ve_callB (CallR.or (call_min2 hc) (cr_min hc)) rd_min hg hm bb_min ha (by decide) (by decide) he hpl
/-- a constant of the module that is an int -/
theorem ve_gint {x : Str} {i : Int} (hg : Gl X x) (hm : ∃ t, X.mg x = some (.int i t)) (hd : (x == ("__debug__" : Str)) = false := by decide) : VE X b W (.Name x pos) (vC (.py (.int i))) := by
  obtain ⟨t, h⟩ := hm
  exact ve_glob (v := .int i) hg h ⟨t, rfl⟩ (fun _ _ => .int i) hd
end
/-! ### a def that is called: all that its call wants -/
structure Cal (P : Program) (w : World) (K : PySem.W.Frag) (mg : Str → Option Value) (base : Heap) (b : Bg) (k : Nat) (x : Str) (ps : List Str) (S : SV) where
  f : Addr
  fd : FuncData
  F : FnOk P w K mg base (L2.CX P w) k f fd ps (spV b S)
  g : mg x = some (.ref f)
  kp : PySem.W.keepIn K (.ref f) = true
  bd : Binds K fd ps []
section
variable {X : Cx} {b : Bg} {W : WX} {k j : Nat} {x : Str} {ps : List Str} {S : SV} {e : Expr} {es : List Expr} {u : VA} {p pos : Pos}
theorem ve_cal (c : Cal X.prog X.w X.K X.mg X.base b k x ps S) (hr : Room j X.A) (tk : Takes X W) (hg : Gl X x) (ha : VAs X b W (e :: es) u) (hk : k ≤ j := by decide) (hdb : (x == ("__debug__" : Str)) = false := by decide)
    (he : starEach (e :: es) X.env = (false, eval e X.env) :: starEach es X.env := by rfl) (hpl : (backTo pos (starEach es X.env)).any (·.1) = false := by rfl) : VE X b W (.Call (.Name x p) (e :: es) [] pos) (vCall S u) :=
  ve_call c.F (hr.mono hk) tk hg c.g c.kp c.bd ha hdb he hpl
end
section
variable {X : Cx} {b : Bg} {W : WX} {tg iter elt c : Expr} {ifs : List Expr} {scope : Scope} {own : List (Str × Nat)} {pos spos py : Pos} {ti : VIt} {js : List Nat} {g : VTg} {tt : VB} {te : VT} {i : Nat} {y : Str} {t : VT}
theorem LE.new : ∀ σ H Q, LE b W (RE b) t σ H Q → LE b W (RN b) t σ H Q := fun σ H Q ⟨Zo, Z, ρ, Qd, Ed, v, q, l, m⟩ => ⟨Zo, Z, ρ, Qd, Ed, v, q, fun u H' d x g ⟨a, e, n, o⟩ => by
  subst e
  exact l _ H' d x g (o.rp (fun _ z => .inl z) (v.fresh n)), m⟩
/-- name = [..] on one line, shared from then on -/
theorem vs_setLcE (hc : X.calm = true) (hN : X.N.Nodup) (hy : X.N[i]? = some y) (hyl : X.env.scope.names.lookup y = some .local) (hsw : swapsWith (.ListComp elt [⟨tg, iter, ifs, 0⟩] scope pos) (some (.Name y py)) spos.line X.env = pure true)
    (hi : VIb X b W tg iter ti) (ok : BlkOk X.N X.env.scope scope own) (hjs : ∀ j ∈ js, j ∈ own.map (·.2))
    (hg : ∀ (s : Shared) (H : Hp) (C : Addr) (cl : List (Str × Addr)) (fp : List Addr), VG (X.blk s H scope (compEnvC scope cl C X.env) fp) b tg js g) (ht : ∀ (s : Shared) (H : Hp) (C : Addr) (cl : List (Str × Addr)) (fp : List Addr), VTs (X.blk s H scope (compEnvC scope cl C X.env) fp) b ifs tt)
    (he : ∀ (s : Shared) (H : Hp) (C : Addr) (cl : List (Str × Addr)) (fp : List Addr), VE (X.blk s H scope (compEnvC scope cl C X.env) fp) b noW elt te) (hs : ∀ x, foldedSetIterable iter X.env x = pure x := by intro _; rfl) :
    VSt X b W (.Assign [.Name y py] (.ListComp elt [⟨tg, iter, ifs, 0⟩] scope pos) spos) (sSet i (vLc (own.map (·.2)) ti g tt te)) :=
  vs_set (ps_setLc hc hN hy hyl hsw hi ok hg ht he hs) fun σ H Q q => lc_sound hjs σ H Q (LE.new σ H Q q)
end
end VL
set_option Elab.async false
set_option linter.all false
set_option maxRecDepth 100000
set_option maxHeartbeats 4000000
namespace VL
open PySem PySem.Spec PyProof.Rows L2
@[simp] theorem szl : sizeLine = 16777216 := sizeLine_eq
@[simp] def asB : D → (Bool → Prop) → Prop
  | .py (.bool k), Q => Q k
  | _, _ => False
@[simp] def asI : D → (Int → Prop) → Prop
  | .py (.int k), Q => Q k
  | _, _ => False
@[simp] def asP : D → (PyData → Prop) → Prop
  | .py k, Q => Q k
  | _, _ => False
@[simp 2000] theorem ex_bool (d : D) (Q : Bool → Prop) : (∃ k, d = .py (.bool k) ∧ Q k) ↔ asB d Q := by
  refine ⟨fun ⟨k, e, q⟩ => by rw [e]; exact q, fun h => ?_⟩
  match d, h with
  | .py (.bool k), h => exact ⟨k, rfl, h⟩
@[simp 2000] theorem ex_int (d : D) (Q : Int → Prop) : (∃ k, d = .py (.int k) ∧ Q k) ↔ asI d Q := by
  refine ⟨fun ⟨k, e, q⟩ => by rw [e]; exact q, fun h => ?_⟩
  match d, h with
  | .py (.int k), h => exact ⟨k, rfl, h⟩
@[simp 2000] theorem ex_py (d : D) (Q : PyData → Prop) : (∃ k, d = .py k ∧ Q k) ↔ asP d Q := by
  refine ⟨fun ⟨k, e, q⟩ => by rw [e]; exact q, fun h => ?_⟩
  match d, h with
  | .py k, h => exact ⟨k, rfl, h⟩
@[simp 2000] theorem ex_pys (ds : List D) (Q : List PyData → Prop) : (∃ ps, pys ds = some ps ∧ Q ps) ↔ asO (pys ds) Q := by
  refine ⟨fun ⟨k, e, q⟩ => by rw [e]; exact q, asO_ex⟩
/-! ### comprehensions, loops: how their readings are met -/
/-- one turn of a comprehension -/
def lcStep (g : VTg) (tt : VB) (te : VT) (d : D) (ρ : VEnv) (k : Option PyData → Prop) : Prop :=
  g d ρ fun ρ1 => tt ρ1 (fun b => if b = true then te ρ1 (fun y => ∃ p, y = .py p ∧ k (some p)) noE else k none) noE
section
variable {g : VTg} {tt : VB} {te : VT} {ρ : VEnv} {Q : D → Prop}
theorem lcGo_cons {d : D} {ds : List D} {acc : List PyData} (h : lcStep g tt te d ρ fun o => match o with
    | some p => acc.length < sizeLine ∧ lcGo g tt te Q ds (acc ++ [p]) ρ
    | none => lcGo g tt te Q ds acc ρ) : lcGo g tt te Q (d :: ds) acc ρ := h
end
section
variable {g : VTg} {tb : VS} {De : VEnds}
/-- a loop by its turns: Iv ahead of turn i -/
theorem for_inv (Iv : Nat → VEnv → Prop) {xs : List PyData} (h : ∀ i x ρ, xs[i]? = some x → Iv i ρ → ∀ nx ct : VEnv → Prop, (∀ ρ', Iv (i + 1) ρ' → nx ρ' ∧ ct ρ') → g (.py x) ρ fun ρ1 => tb ρ1 ⟨nx, De.rt, De.nx, ct, De.ex⟩) (hd : ∀ ρ, Iv xs.length ρ → De.nx ρ) :
    ∀ {ρ : VEnv}, Iv 0 ρ → forGo g tb (xs.map D.py) ρ De := by
  have go : ∀ (n : Nat) (ρ : VEnv), Iv n ρ → n ≤ xs.length → forGo g tb ((xs.drop n).map D.py) ρ De := by
    intro n
    induction hk : xs.length - n generalizing n with
    | zero =>
      intro ρ iv hn
      have e : n = xs.length := by omega
      subst e
      rw [List.drop_length]
      exact hd ρ iv
    | succ m ih =>
      intro ρ iv hn
      have hlt : n < xs.length := by omega
      rw [List.drop_eq_getElem_cons hlt, List.map_cons]
      exact h n xs[n] ρ (List.getElem?_eq_getElem hlt) iv _ _ fun ρ' iv' => ⟨ih (n + 1) (by omega) ρ' iv' hlt, ih (n + 1) (by omega) ρ' iv' hlt⟩
  intro ρ iv
  have := go 0 ρ iv (Nat.zero_le _)
  rwa [List.drop_zero] at this
end
/-! ### plain data -/
@[simp] theorem eqv_lnil (xs : List PyData) : (PyData.list xs).eqv (.list []) = xs.isEmpty := by cases xs <;> rfl
@[simp] theorem eqv_tnil (xs : List PyData) : (PyData.tuple xs).eqv (.tuple []) = xs.isEmpty := by cases xs <;> rfl
@[simp] theorem eqv_lt (xs ys : List PyData) : (PyData.list xs).eqv (.tuple ys) = false := rfl
@[simp] theorem eqv_tl (xs ys : List PyData) : (PyData.tuple xs).eqv (.list ys) = false := rfl
@[simp] theorem eqv_ii (i j : Int) : (PyData.int i).eqv (.int j) = (i == j) := rfl
@[simp] theorem eqv_ss (i j : Str) : (PyData.str i).eqv (.str j) = (i == j) := rfl
@[simp] theorem plain_none : PyData.none.plain = true := rfl
@[simp] theorem plain_bool (k : Bool) : (PyData.bool k).plain = true := rfl
@[simp] theorem plain_int (i : Int) : (PyData.int i).plain = true := rfl
@[simp] theorem plain_str (i : Str) : (PyData.str i).plain = true := rfl
@[simp] theorem plain_list (xs : List PyData) : (PyData.list xs).plain = PyData.plainAll xs := by simp only [PyData.plain]
@[simp] theorem plain_tuple (xs : List PyData) : (PyData.tuple xs).plain = PyData.plainAll xs := by simp only [PyData.plain]
@[simp] theorem plainAll_nil : PyData.plainAll [] = true := rfl
@[simp] theorem plainAll_cons (x : PyData) (xs : List PyData) : PyData.plainAll (x :: xs) = (x.plain && PyData.plainAll xs) := by simp only [PyData.plainAll]
@[simp] theorem plainAll_ints (xs : List Int) : PyData.plainAll (xs.map PyData.int) = true := plain_ints xs
@[simp] theorem depth_nil : (PyData.list []).depth = 1 := rfl
@[simp] theorem depth_tnil : (PyData.tuple []).depth = 1 := rfl
@[simp] theorem depth_int (i : Int) : (PyData.int i).depth = 0 := rfl
@[simp] theorem depth_str (i : Str) : (PyData.str i).depth = 0 := rfl
@[simp] theorem depth_none : PyData.none.depth = 0 := rfl
@[simp] theorem depth_bool (k : Bool) : (PyData.bool k).depth = 0 := rfl
@[simp] theorem depth_list (xs : List PyData) : (PyData.list xs).depth = PyData.depthAll xs + 1 := by simp only [PyData.depth]
@[simp] theorem depth_tuple (xs : List PyData) : (PyData.tuple xs).depth = PyData.depthAll xs + 1 := by simp only [PyData.depth]
@[simp] theorem depthAll_nil : PyData.depthAll [] = 0 := rfl
@[simp] theorem depthAll_cons (x : PyData) (xs : List PyData) : PyData.depthAll (x :: xs) = max x.depth (PyData.depthAll xs) := by simp only [PyData.depthAll]
end VL
namespace VL
open PySem PySem.Spec PyProof.Rows L2
@[simp] theorem cpow_iff (i j : Int) : CPow i j ↔ (0 ≤ j ∧ j ≤ 1000000 ∧ i.natAbs < 2 ^ 64) := Iff.rfl
@[simp] theorem cdivn_iff (i j : Int) : CDivN i j ↔ (j ≠ 0 ∧ j.natAbs < 1073741824) := Iff.rfl
@[simp] theorem cmul_iff (i j : Int) : CMul i j ↔ ((-(2 ^ 64) < i ∧ i < 2 ^ 64) ∨ (-(2 ^ 64) < j ∧ j < 2 ^ 64)) := Iff.rfl
end VL
namespace VL
open PySem PySem.Spec PyProof.Rows L2
theorem atI_ok {α : Type} {xs : List α} {i : Int} (h0 : 0 ≤ i) (h1 : i < xs.length) : ∃ d, atI xs i = some d ∧ d ∈ xs := by
  obtain ⟨j, rfl⟩ := Int.eq_ofNat_of_zero_le h0
  have hj : j < xs.length := by omega
  exact ⟨xs[j], atI_nat (List.getElem?_eq_getElem hj), List.getElem_mem hj⟩
@[simp] theorem rangeP_len (lo : Int) (n : Nat) : (rangeP lo n).length = n := by simp [rangeP]
end VL
set_option Elab.async false
set_option linter.all false
set_option maxRecDepth 100000
set_option maxHeartbeats 4000000
namespace VL
open PySem PySem.Spec PyProof.Rows L2
/-! ### the law: the first statement makes the bag, the rest is read over values -/
theorem pss_ex {X : Cx} {sts : List Stmt} {α : Type} {t : α → TS} (h : ∀ x, PSs X sts (t x)) : PSs X sts (fun D σ H => ∃ x, t x D σ H) := ⟨fun pins s σ H D I ⟨x, q⟩ => (h x).run pins s σ H D I q⟩
def spLaw (K : PySem.W.Frag) : Sp := fun vs H Q _ => ∃ (a : Addr) (ns : List Int), vs = [.ref a] ∧ SqL K H a (ns.map V.int) ∧ ns.length ≤ 63 ∧ ∀ H', Q (.bl true) H'
/-- the names' values behind the first statement: the bag in slot i -/
def envBag (n i : Nat) (r : Addr) : VEnv := (List.replicate n Slot.un).set i (.shr (.raw (.ref r)))
abbrev isTrue' : D → Prop := fun d => d = .py (.bool true)
theorem envBag_at {n i j : Nat} {r : Addr} {s : Slot} (h : (envBag n i r)[j]? = some s) : s = .un ∨ (j = i ∧ s = .shr (.raw (.ref r))) := by
  unfold envBag at h
  by_cases e : i = j
  · subst e
    by_cases hn : i < n
    · rw [List.getElem?_set_self (by simpa using hn)] at h; cases h; exact .inr ⟨rfl, rfl⟩
    · rw [List.getElem?_eq_none (by simp; omega)] at h; cases h
  · rw [List.getElem?_set_ne e, List.getElem?_replicate] at h
    split at h
    · cases h; exact .inl rfl
    · cases h
section
variable {P : Program} {w : World} {K : PySem.W.Frag} {mg : Str → Option Value} {base : Heap} {k k0 : Nat} {st : Stmt} {f fo : Addr} {fd fdo : FuncData} {N : List Str}
end
end VL
set_option Elab.async false
set_option linter.all false
set_option maxRecDepth 100000
set_option maxHeartbeats 4000000
namespace VL
open PySem PySem.Spec PyProof.Rows L2 HT
/-! ### slices as take and drop -/
theorem cutL_take {α : Type} (xs : List α) {x : Int} (h : 0 ≤ x) : cutL xs none (some x) = xs.take x.toNat := by
  simp only [cutL, HT.sIx]
  rw [if_neg (by omega), List.drop_zero, Nat.sub_zero]
  by_cases c : x.toNat ≤ xs.length
  · rw [Nat.min_eq_left c]
  · rw [Nat.min_eq_right (by omega), List.take_length, List.take_of_length_le (by omega)]
theorem cutL_drop {α : Type} (xs : List α) {x : Int} (h : 0 ≤ x) : cutL xs (some x) none = xs.drop x.toNat := by
  simp only [cutL, HT.sIx]
  rw [if_neg (by omega)]
  by_cases c : x.toNat ≤ xs.length
  · rw [Nat.min_eq_left c, List.take_of_length_le (by rw [List.length_drop]; omega)]
  · rw [Nat.min_eq_right (by omega), List.drop_length, List.take_nil, List.drop_of_length_le (by omega)]
end VL
set_option Elab.async false
set_option linter.all false
set_option maxRecDepth 100000
set_option maxHeartbeats 4000000
namespace VL
open PySem PySem.Spec PyProof.Rows L2 HT
/-! ### the facts of a def, for the join -/
structure DefK (K : PySem.W.Frag) (x : Str) (st : Stmt) : Prop where
  ex : ∃ (f : Addr) (oc kV doc pm cdv ct : Value) (od an : Option Addr) (osl : Array (Option Value)), PySem.W.nsIn K mainGlobals x = some (some (.ref f)) ∧ K.lookup f = some ⟨oc, od, .func (PySem.W.fnOf x x (defArgs st) (defBody st) (defScope st) .none kV doc pm an cdv ct), osl⟩ ∧ PySem.W.codeIn K cdv x = true ∧ PySem.W.keepIn K (.ref f) = true
theorem defK {K : PySem.W.Frag} {x : Str} {st : Stmt} {f : Addr} {oc kV doc pm cdv ct : Value} {od an : Option Addr} {osl : Array (Option Value)} (a : PySem.W.nsIn K mainGlobals x = some (some (.ref f)))
    (l : K.lookup f = some ⟨oc, od, .func (PySem.W.fnOf x x (defArgs st) (defBody st) (defScope st) .none kV doc pm an cdv ct), osl⟩) (c : PySem.W.codeIn K cdv x = true) (k : PySem.W.keepIn K (.ref f) = true) : DefK K x st := ⟨f, oc, kV, doc, pm, cdv, ct, od, an, osl, a, l, c, k⟩
theorem DefK.use {K : PySem.W.Frag} {x : Str} {st : Stmt} {h : Heap} {mg : Str → Option Value} (d : DefK K x st) (X : K.In h) (G : h.Ns mainGlobals mg) : ∃ (f : Addr) (fd : FuncData), Fun K x x st f fd ∧ mg x = some (.ref f) ∧ PySem.W.keepIn K (.ref f) = true ∧ fd.defaults = .none := by
  obtain ⟨f, oc, kV, doc, pm, cdv, ct, od, an, osl, a, l, c, k⟩ := d.ex
  exact ⟨f, _, fun_mk l c k, PySem.W.mg_of X G a, k, rfl⟩
end VL
set_option Elab.async false
set_option linter.all false
set_option maxRecDepth 100000
set_option maxHeartbeats 4000000
namespace VL
open PySem PySem.Spec PyProof.Rows L2 HT
/-! ### an owned list is changed by a method -/
def MutD (b : Bg) (r : V → List V → Hp → VK → Prop) (g : List PyData → List D → (D → List PyData → Prop) → Prop) : Prop :=
  ∀ (Z : Addr → Prop) (H : Hp) (a : Addr) (xs : List V) (vs : List V) (p : List PyData) (ds : List D) (Q : VK) (Qd : D → List PyData → Prop), H a = some (.lst xs) → Rqs Z H xs p → Rps b Z H vs ds → g p ds Qd →
    (∀ v ys q dv, Rqs Z H ys q → Rp b Z H v dv → Qd dv q → Q v (upd H a (.lst ys))) → r (.ref a) vs H Q
@[simp] def sMut (i : Nat) (g : List PyData → List D → (D → List PyData → Prop) → Prop) (ta : VA) : VS := fun ρ De => ∃ p, ρ[i]? = some (.own (.py (.list p))) ∧ ta ρ (fun ds => g p ds fun _ q => De.nx (ρ.set i (.own (.py (.list q))))) (De.ex ρ)
section
variable {X : Cx} {b : Bg} {W : WX} {o e : Expr} {es : List Expr} {ta : VA} {i : Nat} {name : Str} {id : String} {apos cpos pos : Pos} {r : V → List V → Hp → VK → Prop} {g : List PyData → List D → (D → List PyData → Prop) → Prop}
theorem vs_mut (slot : PySem.Slot "list" name id) (hty : typeOf (.builtin id) = pure (.type "method_descriptor")) (hm : MtR X id r) (hd : MutD b r g) (ho : PE X o (tVar i)) (ha : VAs X b W (e :: es) ta)
    (hbase : attributeBase o name X.env (eval o X.env) = eval o X.env := by rfl)
    (hfew : ((backTo cpos (starEach (e :: es) X.env)).all (fun x => !x.1) && (backToKw cpos (keywordEach [] X.env)).all (fun x => x.1.isSome)
      && decide ((e :: es).length + ([] : List Keyword).length + (if ([] : List Keyword).isEmpty then 0 else 1) < 30)) = true := by rfl)
    (hline : (apos.endLine == cpos.line) = true := by rfl) (hs : starEach (e :: es) X.env = (false, eval e X.env) :: starEach es X.env := by rfl) (hplain : (backTo cpos (starEach es X.env)).any (·.1) = false := by rfl)
    (hsw : swapsWith (.Call (.Attribute o name apos) (e :: es) [] cpos) none pos.line X.env = pure false := by rfl) :
    VSt X b W (.Expr (.Call (.Attribute o name apos) (e :: es) [] cpos) pos) (sMut i g ta) :=
  ps_mono (ps_expr (pe_bm PySem.F.plainAttrs_list slot hty hm ho ha hbase hfew hline hs hplain) hsw) fun Dn σ H ⟨H0, M, Zo, Z, ρ, De, f, ⟨p, e1, q⟩, l⟩ => by
    obtain ⟨a, h1, h2, h3, xs, h4, h5⟩ := f.v.own i _ e1
    refine ⟨.ref a, h1, .inl ⟨rfl, xs, SqL.of h4⟩, Zo, Z, ρ, _, _, f.v, q, fun vs H' ds x g1 r1 q' => ?_, l.er f⟩
    have f' := f.ex x g1
    obtain ⟨a', h1', h2', h3', xs', h4', h5'⟩ := f'.v.own i _ e1
    rw [h1] at h1'; cases h1'
    refine hd Z H' a xs' vs p ds _ _ h4' h5' r1 q' fun v ys pq dv ry rv q2 => ?_
    exact l.nx _ _ _ _ (f'.mut (d' := .py (.list pq)) e1 h1 ⟨ys, upd_same, ry.mono (fun c z => .inl z) fun c u e n => by
      rw [upd_ne (fun w => n (by rw [w]; exact h2))]
      exact e⟩) q2
/-- append -/
@[simp] def gApp : List PyData → List D → (D → List PyData → Prop) → Prop
  | p, [.py x], Q => p.length < sizeLine ∧ Q (.py .none) (p ++ [x])
  | _, _, _ => False
theorem rd_app : MutD b rAppend gApp := by
  intro Z H a xs vs p ds Q Qd h rx rv g k
  match ds, g, rv with
  | [.py x], ⟨hl, q⟩, .cons (v := v) rv .nil => exact ⟨a, xs, v, rfl, rfl, h, by rw [rx.length]; exact hl, k _ _ _ (.py .none) (rx.append (.cons rv .nil)) (Rq.non : Rq Z H .non .none) q⟩
theorem vs_app (ho : PE X o (tVar i)) (ha : VAs X b W [e] ta) (hbase : attributeBase o "append" X.env (eval o X.env) = eval o X.env := by rfl)
    (hfew : ((backTo cpos (starEach [e] X.env)).all (fun x => !x.1) && (backToKw cpos (keywordEach [] X.env)).all (fun x => x.1.isSome)
      && decide ([e].length + ([] : List Keyword).length + (if ([] : List Keyword).isEmpty then 0 else 1) < 30)) = true := by rfl)
    (hline : (apos.endLine == cpos.line) = true := by rfl) (hs : starEach [e] X.env = (false, eval e X.env) :: starEach [] X.env := by rfl) (hplain : (backTo cpos (starEach [] X.env)).any (·.1) = false := by rfl)
    (hsw : swapsWith (.Call (.Attribute o "append" apos) [e] [] cpos) none pos.line X.env = pure false := by rfl) :
    VSt X b W (.Expr (.Call (.Attribute o "append" apos) [e] [] cpos) pos) (sMut i gApp ta) :=
  vs_mut PySem.F.slot_list_append PySem.F.type_list_append mt_append rd_app ho ha hbase hfew hline hs hplain hsw
end
end VL
set_option Elab.async false
set_option linter.all false
set_option maxRecDepth 100000
set_option maxHeartbeats 4000000
namespace VL
open PySem PySem.Spec PyProof.Rows L2 HT
/-! ### dicts with keys int or text: read, get, put -/
def keyOf : PyData → Option Key
  | .int i => some (.inl i)
  | .str x => some (.inr x)
  | _ => none
@[simp] theorem keyOf_kD (k : Key) : keyOf (kD k) = some k := by cases k <;> rfl
def getD (ds : List (PyData × PyData)) (k : Key) : Option PyData := (ds.find? fun p => decide (keyOf p.1 = some k)).map (·.2)
def putD (ds : List (PyData × PyData)) (k : Key) (x : PyData) : List (PyData × PyData) :=
  if (ds.any fun p => decide (keyOf p.1 = some k)) = true then ds.map (fun p => if keyOf p.1 = some k then (p.1, x) else p) else ds ++ [(kD k, x)]
section
variable {Z : Addr → Prop} {H : Hp}
theorem Rqk.any {k : Key} : ∀ {kvs : List (Key × V)} {ds : List (PyData × PyData)}, Rqk Z H kvs ds → (kvs.any fun kv => decide (kv.1 = k)) = (ds.any fun p => decide (keyOf p.1 = some k))
  | _, _, .nil => rfl
  | _, _, .cons (k := k') r t => by
    rw [List.any_cons, List.any_cons, Rqk.any t]
    simp [-kD]
theorem Rqk.get {k : Key} : ∀ {kvs : List (Key × V)} {ds : List (PyData × PyData)}, Rqk Z H kvs ds → (valV kvs k = none ∧ getD ds k = none) ∨ ∃ v d, valV kvs k = some v ∧ getD ds k = some d ∧ Rq Z H v d
  | _, _, .nil => .inl ⟨rfl, rfl⟩
  | _, _, .cons (k := k') (v := v) (d := d) r t => by
    by_cases e : k' = k
    · exact .inr ⟨v, d, valV_pos e, by simp [-kD, getD, List.find?_cons, e], r⟩
    · have h1 : ∀ r, valV ((k', v) :: r) k = valV r k := fun r => valV_neg e
      have h2 : ∀ ds, getD ((kD k', d) :: ds) k = getD ds k := fun ds => by simp [-kD, getD, List.find?_cons, e]
      rcases Rqk.get (k := k) t with ⟨a, c⟩ | ⟨v', d', a, c, q⟩
      · exact .inl ⟨by rw [h1]; exact a, by rw [h2]; exact c⟩
      · exact .inr ⟨v', d', by rw [h1]; exact a, by rw [h2]; exact c, q⟩
theorem Rqk.map {k : Key} {v : V} {x : PyData} (rx : Rq Z H v x) : ∀ {kvs : List (Key × V)} {ds : List (PyData × PyData)}, Rqk Z H kvs ds → Rqk Z H (kvs.map fun kv => if kv.1 = k then (kv.1, v) else kv) (ds.map fun p => if keyOf p.1 = some k then (p.1, x) else p)
  | _, _, .nil => .nil
  | _, _, .cons (k := k') r t => by
    rw [List.map_cons, List.map_cons]
    by_cases e : k' = k
    · simp only [keyOf_kD, e, if_true]
      exact .cons rx (Rqk.map rx t)
    · simp only [keyOf_kD, Option.some.injEq, e, if_false]
      exact .cons r (Rqk.map rx t)
theorem Rqk.snoc {k : Key} {v : V} {x : PyData} (rx : Rq Z H v x) : ∀ {kvs : List (Key × V)} {ds : List (PyData × PyData)}, Rqk Z H kvs ds → Rqk Z H (kvs ++ [(k, v)]) (ds ++ [(kD k, x)])
  | _, _, .nil => .cons rx .nil
  | _, _, .cons r t => .cons r (Rqk.snoc rx t)
theorem Rqk.put {k : Key} {v : V} {x : PyData} {kvs : List (Key × V)} {ds : List (PyData × PyData)} (rx : Rq Z H v x) (t : Rqk Z H kvs ds) : Rqk Z H (putK kvs k v) (putD ds k x) := by
  unfold putK putD
  rw [t.any]
  split
  · exact t.map rx
  · exact t.snoc rx
end
end VL
set_option Elab.async false
set_option linter.all false
set_option maxRecDepth 100000
set_option maxHeartbeats 4000000
namespace VL
open PySem PySem.Spec PyProof.Rows L2 HT
section
variable {b : Bg} {Zo Z : Addr → Prop} {σ : L2.St} {H H' : Hp} {ρ : VEnv}
theorem VOk.rqk (v : VOk b Zo Z σ H ρ) (x : Ex b H H') {u : List (Key × V)} {d : List (PyData × PyData)} (r : Rqk Z H u d) : Rqk Z H' u d := r.mono (fun a z => .inl z) (v.keep x)
/-- a borrowed dict -/
theorem VOk.rdict (v : VOk b Zo Z σ H ρ) {u : V} {ds : List (PyData × PyData)} (r : Rb b Z H u (.py (.dict ds))) : ∃ a kvs, u = .ref a ∧ H a = some (.dK kvs) ∧ ¬ b.B a ∧ Rqk Z H kvs ds := by
  rcases r with r | ⟨a, e, nb, _, kvs, h, rk⟩
  · have r : Rq Z H u (.dict ds) := r
    cases r with
    | dct h n rk => exact ⟨_, _, rfl, h, v.nb n, rk⟩
  · exact ⟨a, kvs, e, h, nb, rk⟩
theorem Rq.key {u : V} {p : PyData} {k : Key} (r : Rq Z H u p) (e : keyOf p = some k) : u = kV k := by
  cases p <;> simp only [keyOf] at e <;> cases e
  · cases r; rfl
  · cases r; rfl
end
@[simp] def vDGet2 (td ty tx : VT) : VT := fun ρ Q E => td ρ (fun d => ∃ ds, d = .py (.dict ds) ∧ ty ρ (fun y => ∃ k kk, y = .py k ∧ keyOf k = some kk ∧ tx ρ (fun z => ∃ p, z = .py p ∧ Q (.py ((getD ds kk).getD p))) E) E) E
@[simp] def vDGet1 (td ty : VT) : VT := fun ρ Q E => td ρ (fun d => ∃ ds, d = .py (.dict ds) ∧ ty ρ (fun y => ∃ k kk, y = .py k ∧ keyOf k = some kk ∧ Q (.py ((getD ds kk).getD .none))) E) E
@[simp] def vDIx (td ty : VT) : VT := fun ρ Q E => td ρ (fun d => ∃ ds, d = .py (.dict ds) ∧ ty ρ (fun y => ∃ k kk x, y = .py k ∧ keyOf k = some kk ∧ getD ds kk = some x ∧ Q (.py x)) E) E
section
variable {X : Cx} {b : Bg} {W : WX} {o e f : Expr} {td ty tx : VT} {apos cpos pos pos' : Pos} {i : Nat}
theorem ve_dget2 (hu : X.A.units + 1 < cLine) (ho : VX X b W o td) (he : VE X b W e ty) (hf : VE X b W f tx) (m : M2 X o "get" apos e f cpos) : VE X b W (.Call (.Attribute o "get" apos) [e, f] [] cpos) (vDGet2 td ty tx) :=
  pe_mono (pe_dget2 hu ho he hf m) fun σ H Q ⟨Zo, Z, ρ, Qd, Ed, v, q, l, me⟩ => ⟨Zo, Z, ρ, _, Ed, v, q, fun x H1 d x1 g1 r1 ⟨ds, ed, q1⟩ => by
    subst ed
    have v1 := v.ex x1 g1
    obtain ⟨a, kvs, rfl, h, nb, rk⟩ := v1.rdict r1
    refine ⟨a, rfl, .inl ⟨kvs, .inl h⟩, Zo, Z, ρ, _, Ed, v1, q1, fun y H2 dy x2 g2 r2 ⟨k, kk, ey, ek, q2⟩ => ?_, fun c y H2 er x2 g2 r2 q2 => me c y H2 er (x1.trans x2) g2 r2 q2⟩
    subst ey
    have v2 := v1.ex x2 g2
    refine ⟨Zo, Z, ρ, _, Ed, v2, q2, fun z H3 dz x3 g3 r3 ⟨p, ez, q3⟩ => ?_, fun c y H3 er x3 g3 r3 q3 => me c y H3 er ((x1.trans x2).trans x3) g3 r3 q3⟩
    subst ez
    have x23 := x2.trans x3
    have h3 := x23 a _ h nb
    have rk3 := v1.rqk x23 rk
    have ek' : y = kV kk := Rq.key (Z := Z) r2 ek
    refine ⟨valV kvs kk, by rw [ek']; exact DGet.k h3, l _ H3 _ (x1.trans x23) g3 ?_ q3⟩
    rcases rk3.get (k := kk) with ⟨e1, e2⟩ | ⟨u, d', e1, e2, ru⟩
    · rw [e1, e2]; exact r3
    · rw [e1, e2]; exact ru, me⟩
/-- d[k] = x for an owned dict -/
@[simp] def sDPutO (i : Nat) (ty tv : VT) : VS := fun ρ De => ∃ ds, ρ[i]? = some (.own (.py (.dict ds))) ∧ tv ρ (fun x => ∃ p, x = .py p ∧ ty ρ (fun y => ∃ k kk, y = .py k ∧ keyOf k = some kk ∧ ds.length < sizeLine ∧ De.nx (ρ.set i (.own (.py (.dict (putD ds kk p)))))) (De.ex ρ)) (De.ex ρ)
theorem vs_dputO {tv : VT} {value : Expr} (hu : X.A.units + 1 < cLine) (ho : PE X o (tVar i)) (he : VE X b W e ty) (hv : VE X b W value tv) (hs : swapsWith value (some (.Subscript o e pos')) pos.line X.env = pure false := by rfl) :
    VSt X b W (.Assign [.Subscript o e pos'] value pos) (sDPutO i ty tv) :=
  ps_mono (ps_dput hu ho he hv hs) fun Dn σ H ⟨H0, M, Zo, Z, ρ, De, f, ⟨ds, e1, q⟩, l⟩ => by
    refine ⟨Zo, Z, ρ, _, _, f.v, q, fun v H1 dv x1 g1 r1 ⟨p, ep, q1⟩ => ?_, l.er f⟩
    subst ep
    have f1 := f.ex x1 g1
    obtain ⟨a, h1, h2, h3, kvs, h4, h5⟩ := f1.v.own i _ e1
    have nb : ¬ b.B a := fun z => h3 (f1.v.zb a z)
    refine ⟨.ref a, h1, Zo, Z, ρ, _, _, f1.v, q1, fun y H2 dy x2 g2 r2 ⟨k, kk, ey, ek, hl, q2⟩ => ?_, l.er f1⟩
    subst ey
    have f2 := f1.ex x2 g2
    have ek' : y = kV kk := Rq.key (Z := Z) r2 ek
    have h4' := x2 a _ h4 nb
    have h5' := f1.v.rqk x2 h5
    refine ⟨a, _, rfl, by rw [ek']; exact DPut.k h4' (by rw [h5.length]; exact hl), l.nx _ _ _ _ (f2.mut (d' := .py (.dict (putD ds kk p))) e1 h1 ⟨_, upd_same, ?_⟩) q2⟩
    exact (h5'.put (f1.v.rq x2 r1)).mono (fun c z => .inl z) fun c u e n => by
      rw [upd_ne (fun w => n (by rw [w]; exact h2))]
      exact e
end
end VL
set_option Elab.async false
set_option linter.all false
set_option maxRecDepth 100000
set_option maxHeartbeats 4000000
namespace VL
open PySem PySem.Spec PyProof.Rows L2 HT
/-- a constant of the module that is a text -/
theorem ve_gstr {X : Cx} {b : Bg} {W : WX} {pos : Pos} {x : Str} {i : Str} (hg : Gl X x) (hm : ∃ t, X.mg x = some (.str i t)) (hd : (x == ("__debug__" : Str)) = false := by decide) : VE X b W (.Name x pos) (vC (.py (.str i))) := by
  obtain ⟨t, h⟩ := hm
  exact ve_glob (v := .str i) hg h ⟨t, rfl⟩ (fun _ _ => .str i) hd
end VL
set_option Elab.async false
set_option linter.all false
set_option maxRecDepth 100000
set_option maxHeartbeats 4000000
namespace VL
open PySem PySem.Spec PyProof.Rows L2 HT
/-! ### typed data -/
def pN (n : Nat) : PyData := .int (n : Int)
def oN : Option Nat → PyData
  | none => .none
  | some n => .int (n : Int)
@[simp] def tI (gs : List Int) : PyData := .tuple (gs.map PyData.int)
@[simp] def tN (ns : List Nat) : PyData := .tuple (ns.map pN)
theorem map_inj {α β : Type} {f : α → β} (h : ∀ a b, f a = f b → a = b) : ∀ {xs ys : List α}, xs.map f = ys.map f ↔ xs = ys
  | [], [] => ⟨fun _ => rfl, fun _ => rfl⟩
  | [], _ :: _ => by simp
  | _ :: _, [] => by simp
  | x :: xs, y :: ys => by
    rw [List.map_cons, List.map_cons, List.cons.injEq, List.cons.injEq, map_inj h]
    exact ⟨fun ⟨a, b⟩ => ⟨h _ _ a, b⟩, fun ⟨a, b⟩ => ⟨by rw [a], b⟩⟩
theorem pN_inj (a b : Nat) (e : pN a = pN b) : a = b := by unfold pN at e; injection e with e; omega
@[simp] theorem pN_eq {a b : Nat} : pN a = pN b ↔ a = b := ⟨pN_inj a b, fun e => by rw [e]⟩
@[simp] theorem mapI_inj {xs ys : List Int} : xs.map PyData.int = ys.map PyData.int ↔ xs = ys := map_inj fun a b e => by injection e
@[simp] theorem mapN_inj {xs ys : List Nat} : xs.map pN = ys.map pN ↔ xs = ys := map_inj pN_inj
theorem tN_inj {xs ys : List Nat} : tN xs = tN ys ↔ xs = ys := ⟨fun e => by unfold tN at e; injection e with e; exact mapN_inj.mp e, fun e => by rw [e]⟩
@[simp] theorem oN_inj {a b : Option Nat} : oN a = oN b ↔ a = b := by
  cases a <;> cases b <;> simp [oN]
  omega
theorem atI_map {α β : Type} {f : α → β} {xs : List α} {k : Nat} {x : α} (h : xs[k]? = some x) : atI (xs.map f) (k : Int) = some (f x) := atI_nat (by rw [List.getElem?_map, h]; rfl)
theorem enumP_len (xs : List PyData) : (enumP xs).length = xs.length := by simp [enumP]
theorem enumP_getD {α : Type} {f : α → PyData} {xs : List α} {k : Nat} {d : PyData} (h : (enumP (xs.map f))[k]? = some d) : ∃ x, xs[k]? = some x ∧ d = .tuple [.int (k : Nat), f x] := by
  obtain ⟨x, h1, h2⟩ := enumP_get h
  rw [List.getElem?_map] at h1
  cases e : xs[k]? with
  | none => rw [e] at h1; cases h1
  | some y => rw [e] at h1; cases h1; exact ⟨y, rfl, h2⟩
theorem take_succ_get {α : Type} {xs : List α} {k : Nat} {x : α} (h : xs[k]? = some x) : xs.take (k + 1) = xs.take k ++ [x] := by
  rw [List.take_add_one, h]; rfl
end VL
namespace VL
open PySem PySem.Spec PyProof.Rows L2 HT
theorem putD_len (ds : List (PyData × PyData)) (k : Key) (x : PyData) : (putD ds k x).length ≤ ds.length + 1 := by
  unfold putD
  split
  · simp
  · simp
theorem getD_putD (ds : List (PyData × PyData)) (k j : Key) (x : PyData) : getD (putD ds k x) j = if j = k then some x else getD ds j := by
  unfold putD
  split
  · rename_i h
    have e : ∀ l : List (PyData × PyData), getD (l.map fun p => if keyOf p.1 = some k then (p.1, x) else p) j = if j = k then (if (l.any fun p => decide (keyOf p.1 = some k)) = true then some x else none) else getD l j := by
      intro l
      induction l with
      | nil => simp [getD]
      | cons p l ih =>
        unfold getD at ih ⊢
        rw [List.map_cons, List.any_cons, List.find?_cons]
        by_cases c : keyOf p.1 = some k
        · by_cases d : j = k
          · subst d; simp [c]
          · have d' : ¬ (some k = some j) := fun z => d (by cases z; rfl)
            have d'' : ¬ (k = j) := fun z => d z.symm
            simp [c, d, d', d''] at ih ⊢
            simpa [c, d, d', d''] using ih
        · by_cases d : keyOf p.1 = some j
          · have d' : ¬ j = k := fun z => c (by rw [d, z])
            simp [c, d, d']
          · have c' : decide (keyOf p.1 = some k) = false := decide_eq_false c
            have d' : decide (keyOf p.1 = some j) = false := decide_eq_false d
            rw [if_neg c, d', List.find?_cons, c', Bool.false_or]
            simp only [d']
            exact ih
    rw [e, h]; simp
  · rename_i h
    unfold getD
    rw [List.find?_append]
    by_cases d : j = k
    · subst d
      have hn : ds.find? (fun p => decide (keyOf p.1 = some j)) = none := by
        rw [List.find?_eq_none]
        intro p hp hc
        exact h (List.any_eq_true.mpr ⟨p, hp, hc⟩)
      simp [hn, -kD]
    · have d' : ¬ (k = j) := fun z => d z.symm
      simp [d, d', -kD]
@[simp] theorem getD_nil (k : Key) : getD [] k = none := rfl
end VL
set_option Elab.async false
set_option linter.all false
set_option maxRecDepth 100000
set_option maxHeartbeats 4000000
namespace VL
open PySem PySem.Spec PyProof.Rows L2
/-! ### data that is shown in few signs -/
structure Sw (w d : Nat) (p : PyData) : Prop where
  sh : p.showable = true
  ls : p.leavesShort 60 = true
  wt : p.weight ≤ w
  dp : p.depth ≤ d
theorem Sw.mono {w d w' d' : Nat} {p : PyData} (h : Sw w d p) (hw : w ≤ w') (hd : d ≤ d') : Sw w' d' p := ⟨h.sh, h.ls, Nat.le_trans h.wt hw, Nat.le_trans h.dp hd⟩
theorem Sw.len {w d : Nat} {p : PyData} (h : Sw w d p) : p.shown.length ≤ 62 * w + 60 := by
  have := PyData.shown_le 60 (by omega) p h.ls
  have := h.wt
  omega
theorem Sw.repr {w d : Nat} {p : PyData} (h : Sw w d p) (hw : w ≤ 260000 := by decide) (hd : d ≤ 40 := by decide) : ReprOk p := ⟨h.sh, by have := h.len; rw [szl]; omega, Nat.le_trans h.dp hd⟩
theorem Sw.all {w d : Nat} : ∀ {ps : List PyData}, (∀ p ∈ ps, Sw w d p) → PyData.showableAll ps = true ∧ PyData.leavesShortAll 60 ps = true ∧ PyData.weightAll ps ≤ (w + 1) * ps.length ∧ PyData.depthAll ps ≤ d
  | [], _ => ⟨rfl, rfl, Nat.zero_le _, Nat.zero_le _⟩
  | p :: ps, h => by
    have hp := h p List.mem_cons_self
    obtain ⟨a, b, c, e⟩ := Sw.all (ps := ps) fun q hq => h q (List.mem_cons_of_mem _ hq)
    refine ⟨by simp only [PyData.showableAll, hp.sh, a, Bool.and_self], by simp only [PyData.leavesShortAll, hp.ls, b, Bool.and_self], ?_, ?_⟩
    · have := hp.wt
      rw [List.length_cons, Nat.mul_add]
      simp only [PyData.weightAll]
      omega
    · have := hp.dp
      simp only [PyData.depthAll]
      omega
theorem Sw.tup {w d n : Nat} {ps : List PyData} (h : ∀ p ∈ ps, Sw w d p) (hn : ps.length ≤ n) : Sw ((w + 1) * n) (d + 1) (.tuple ps) := by
  obtain ⟨a, b, c, e⟩ := Sw.all h
  have m : (w + 1) * ps.length ≤ (w + 1) * n := Nat.mul_le_mul_left _ hn
  exact ⟨by simpa only [PyData.showable] using a, by simpa only [PyData.leavesShort] using b, by simp only [PyData.weight]; omega, by simp only [PyData.depth]; omega⟩
theorem Sw.lst {w d n : Nat} {ps : List PyData} (h : ∀ p ∈ ps, Sw w d p) (hn : ps.length ≤ n) : Sw ((w + 1) * n) (d + 1) (.list ps) := by
  obtain ⟨a, b, c, e⟩ := Sw.all h
  have m : (w + 1) * ps.length ≤ (w + 1) * n := Nat.mul_le_mul_left _ hn
  exact ⟨by simpa only [PyData.showable] using a, by simpa only [PyData.leavesShort] using b, by simp only [PyData.weight]; omega, by simp only [PyData.depth]; omega⟩
theorem Sw.int {i : Int} (h : i.natAbs < 10 ^ 12) : Sw 40 2 (.int i) := by
  have l : i.natAbs.log2 < 40 := by
    by_cases z : i.natAbs = 0
    · rw [z]; decide
    · exact (Nat.log2_lt z).mpr (by omega)
  refine ⟨by simp only [PyData.showable, decide_eq_true_eq]; omega, ?_, ?_, by simp only [PyData.depth]; omega⟩
  · have := PyData.shown_int_le h
    simp only [PyData.leavesShort, decide_eq_true_eq]
    omega
  · simp only [PyData.weight]
    split <;> omega
instance (w d : Nat) (p : PyData) : Decidable (Sw w d p) := decidable_of_iff (p.showable = true ∧ p.leavesShort 60 = true ∧ p.weight ≤ w ∧ p.depth ≤ d) ⟨fun ⟨a, b, c, e⟩ => ⟨a, b, c, e⟩, fun ⟨a, b, c, e⟩ => ⟨a, b, c, e⟩⟩
theorem Sw.tI {n : Nat} {gs : List Int} (h : ∀ g ∈ gs, g.natAbs < 10 ^ 12) (hn : gs.length ≤ n) : Sw (41 * n) 3 (tI gs) := Sw.tup (w := 40) (d := 2) (fun p hp => by
  obtain ⟨g, hg, rfl⟩ := List.mem_map.mp hp
  exact Sw.int (h g hg)) (by rw [List.length_map]; exact hn)
theorem Sw.pN {n : Nat} (h : n < 10 ^ 12) : Sw 40 2 (pN n) := Sw.int (by omega)
theorem Sw.none : Sw 40 2 .none := by decide +kernel
theorem Sw.map {α : Type} {f : α → PyData} {xs : List α} {w d n : Nat} (h : ∀ x ∈ xs, Sw w d (f x)) (hn : xs.length ≤ n) : Sw ((w + 1) * n) (d + 1) (.tuple (xs.map f)) ∧ Sw ((w + 1) * n) (d + 1) (.list (xs.map f)) := by
  have : ∀ p ∈ xs.map f, Sw w d p := fun p hp => by
    obtain ⟨x, hx, rfl⟩ := List.mem_map.mp hp
    exact h x hx
  exact ⟨Sw.tup this (by rw [List.length_map]; exact hn), Sw.lst this (by rw [List.length_map]; exact hn)⟩
theorem Sw.t2 {w d : Nat} {p q : PyData} (h : Sw w d p) (k : Sw w d q) : Sw ((w + 1) * 2) (d + 1) (.tuple [p, q]) := Sw.tup (fun x hx => by
  simp at hx
  rcases hx with rfl | rfl
  · exact h
  · exact k) (by simp)
theorem Sw.t3 {w d : Nat} {p q r : PyData} (h : Sw w d p) (k : Sw w d q) (j : Sw w d r) : Sw ((w + 1) * 3) (d + 1) (.tuple [p, q, r]) := Sw.tup (fun x hx => by
  simp at hx
  rcases hx with rfl | rfl | rfl
  · exact h
  · exact k
  · exact j) (by simp)
end VL
set_option Elab.async false
set_option linter.all false
set_option maxRecDepth 100000
set_option maxHeartbeats 4000000
namespace VL
open PySem PySem.Spec PyProof.Rows L2 HT
/-! ### comprehensions and loops over encoded lists -/
section
variable {g : VTg} {tt : VB} {te : VT} {ρ : VEnv} {Q : D → Prop} {α : Type}
theorem lc_enc (enc : α → PyData) (f : α → Option PyData) : ∀ {L : List α} {acc : List PyData}, (∀ (i : Nat) (x : α), L[i]? = some x → ∀ k, k (f x) → lcStep g tt te (.py (enc x)) ρ k) → acc.length + L.length < 16777216 → Q (.py (.list (acc ++ L.filterMap f))) → lcGo g tt te Q ((L.map enc).map D.py) acc ρ
  | [], acc, _, _, q => by simpa using q
  | x :: xs, acc, h, hl, q => by
    refine lcGo_cons (h 0 x rfl _ ?_)
    have hr : ∀ (i : Nat) (y : α), xs[i]? = some y → ∀ k, k (f y) → lcStep g tt te (.py (enc y)) ρ k := fun i y hy => h (i + 1) y (by simpa using hy)
    rw [List.length_cons] at hl
    rw [List.filterMap_cons] at q
    cases e : f x with
    | none => rw [e] at q; exact lc_enc enc f hr (by omega) q
    | some p =>
      rw [e] at q
      refine ⟨by rw [szl]; omega, lc_enc enc f hr (by rw [List.length_append, List.length_singleton]; omega) ?_⟩
      rw [List.append_assoc]
      exact q
theorem filterMap_if (p : α → Bool) (e : α → PyData) : ∀ L : List α, L.filterMap (fun x => if p x = true then some (e x) else none) = (L.filter p).map e
  | [] => rfl
  | x :: xs => by
    rw [List.filterMap_cons, filterMap_if p e xs, List.filter_cons]
    cases p x <;> simp
theorem lc_encF (enc : α → PyData) (p : α → Bool) (e : α → PyData) {L : List α} (h : ∀ (i : Nat) (x : α), L[i]? = some x → ∀ k, (p x = true → k (some (e x))) → (p x = false → k none) → lcStep g tt te (.py (enc x)) ρ k)
    (hl : L.length < 16777216) (q : Q (.py (.list ((L.filter p).map e)))) : lcGo g tt te Q ((L.map enc).map D.py) [] ρ := by
  refine lc_enc enc (fun x => if p x = true then some (e x) else none) (fun i x hx k hk => h i x hx k (fun c => by simpa [c] using hk) (fun c => by simpa [c] using hk)) (by simpa using hl) ?_
  rw [filterMap_if, List.nil_append]
  exact q
theorem lc_encM (enc : α → PyData) (e : α → PyData) {L : List α} (h : ∀ (i : Nat) (x : α), L[i]? = some x → ∀ k, k (some (e x)) → lcStep g tt te (.py (enc x)) ρ k)
    (hl : L.length < 16777216) (q : Q (.py (.list (L.map e)))) : lcGo g tt te Q ((L.map enc).map D.py) [] ρ := by
  refine lc_enc enc (fun x => some (e x)) h (by simpa using hl) ?_
  rw [List.nil_append, List.filterMap_eq_map']
  exact q
end
section
variable {g : VTg} {tb : VS} {De : VEnds} {α : Type}
theorem for_enc (enc : α → PyData) (Iv : Nat → VEnv → Prop) {L : List α} {ρ : VEnv} (h0 : Iv 0 ρ) (h : ∀ i x ρ, L[i]? = some x → Iv i ρ → ∀ nx ct : VEnv → Prop, (∀ ρ', Iv (i + 1) ρ' → nx ρ' ∧ ct ρ') → g (.py (enc x)) ρ fun ρ1 => tb ρ1 ⟨nx, De.rt, De.nx, ct, De.ex⟩) (hd : ∀ ρ, Iv L.length ρ → De.nx ρ) :
    forGo g tb ((L.map enc).map D.py) ρ De := by
  refine for_inv Iv (fun i x ρ hx iv nx ct hn => ?_) (fun ρ iv => hd ρ (by simpa using iv)) h0
  rw [List.getElem?_map] at hx
  cases e : L[i]? with
  | none => rw [e] at hx; cases hx
  | some y => rw [e] at hx; cases hx; exact h i y ρ e iv nx ct hn
end
def encR (lo : Int) (k : Nat) : PyData := .int (lo + (k : Nat))
theorem rangeP_eq (lo : Int) (n : Nat) : rangeP lo n = (List.range n).map (encR lo) := rfl
@[simp] theorem encR0 (k : Nat) : encR 0 k = .int (k : Int) := by unfold encR; rw [Int.zero_add]
def encE {α : Type} (enc : α → PyData) (p : α × Nat) : PyData := .tuple [.int (p.2 : Nat), enc p.1]
@[simp] theorem encE_eq {α : Type} (enc : α → PyData) (x : α) (n : Nat) : encE enc (x, n) = .tuple [.int (n : Nat), enc x] := rfl
theorem enumP_enc {α : Type} (enc : α → PyData) (L : List α) : enumP (L.map enc) = L.zipIdx.map (encE enc) := by
  unfold enumP encE
  rw [List.zipIdx_map, List.map_map]
  rfl
theorem zipIdx_at {α : Type} {L : List α} {i : Nat} {p : α × Nat} (h : L.zipIdx[i]? = some p) : ∃ x, L[i]? = some x ∧ p = (x, i) := by
  rw [List.getElem?_zipIdx] at h
  cases e : L[i]? with
  | none => rw [e] at h; cases h
  | some x => rw [e] at h; cases h; exact ⟨x, rfl, by simp⟩
theorem range_get {n i x : Nat} (h : (List.range n)[i]? = some x) : x = i ∧ i < n := by
  have hi : i < n := by have := (List.getElem?_eq_some_iff.mp h).1; simpa using this
  rw [List.getElem?_range hi] at h
  cases h
  exact ⟨rfl, hi⟩
end VL
set_option Elab.async false
set_option linter.all false
set_option maxRecDepth 100000
set_option maxHeartbeats 4000000
namespace VL
open PySem PySem.Spec PyProof.Rows L2 HT
/-! ### methods of values -/
def TyIs (X : Cx) (T : String) (x : V) (H : Hp) : Prop := ∀ (pins : List (Addr × Obj)) (σ : L2.St) (s : Shared) (v : Value), Inv X pins σ H s → RelV x v → s.TypeIs v T ∧ ∀ a, v = .ref a → ∃ ob, s.heap.get? a = some ob ∧ ob.dict = none
def AltOk (X : Cx) (name : Str) (x : V) (H : Hp) (r : V → List V → Hp → VK → Prop) : Prop := ∃ T id, PlainAttrs T ∧ PySem.Slot T name id ∧ typeOf (.builtin id) = pure (.type "method_descriptor") ∧ MtR X id r ∧ TyIs X T x H
def tBMx (X : Cx) (name : Str) (to : TE) (t : TA) : TE := fun σ H Q => to σ H fun x H1 => ∃ r, AltOk X name x H1 r ∧ t σ H1 fun xs H2 => r x xs H2 Q
theorem pe_bmx {X : Cx} {o e : Expr} {es : List Expr} {to : TE} {t : TA} {name : Str} {apos cpos : Pos} (ho : PE X o to) (ha : PA X (e :: es) t)
    (hbase : attributeBase o name X.env (eval o X.env) = eval o X.env := by rfl)
    (hfew : ((backTo cpos (starEach (e :: es) X.env)).all (fun x => !x.1) && (backToKw cpos (keywordEach [] X.env)).all (fun x => x.1.isSome)
      && decide ((e :: es).length + ([] : List Keyword).length + (if ([] : List Keyword).isEmpty then 0 else 1) < 30)) = true := by rfl)
    (hline : (apos.endLine == cpos.line) = true := by rfl) (hs : starEach (e :: es) X.env = (false, eval e X.env) :: starEach es X.env := by rfl) (hplain : (backTo cpos (starEach es X.env)).any (·.1) = false := by rfl) :
    PE X (.Call (.Attribute o name apos) (e :: es) [] cpos) (tBMx X name to t) := by
  refine ⟨fun pins s σ H Q I h => ?_⟩
  refine wpAny_Call_method_late hbase hfew hline rfl (thn (ho.run pins s σ H _ I h) fun v s1 ⟨x, H1, I1, r1, r, ⟨T, id, pa, slot, hty, hm, ty⟩, q1⟩ => ?_)
  obtain ⟨h1, h2⟩ := ty pins σ s1 v I1 r1
  refine ⟨T, id, pa, slot, hty, h1, h2, ?_⟩
  have hA := ha.run cpos pins s1 σ H1 _ I1 q1
  rw [hs] at hA ⊢
  refine Calls.callWith_builtin (by show (false || (backTo cpos (starEach es X.env)).any (·.1)) = false; rw [hplain] <;> rfl) (Calls.evalArgs_plain ?_)
  exact thn hA fun us s2 ⟨vs, H2, I2, r2, q2⟩ => hm pins s2 σ H2 x vs v us Q I2 r1 r2 q2
section
variable {X : Cx} {H : Hp}
theorem ty_str (z : Str) : TyIs X "str" (.str z) H := fun pins σ s v I r => by
  obtain ⟨t, rfl⟩ := r
  exact ⟨typeIs_str s z t, fun _ e => nomatch e⟩
theorem ty_lst {a : Addr} {xs : List V} (e : H a = some (.lst xs)) : TyIs X "list" (.ref a) H := fun pins σ s v I r => by
  cases r
  obtain ⟨its, _, pl, _⟩ := I.list (SqL.of e)
  refine ⟨pl.isList.typeIs, fun a e => ?_⟩
  cases e
  obtain ⟨o, n, e, c, hd, _⟩ := pl
  exact ⟨o, e, hd⟩
theorem ty_tup {a : Addr} {o : Obj} {xs : List V} (e : H a = some (HO.th o xs)) (hd : o.dict = none) : TyIs X "tuple" (.ref a) H := fun pins σ s v I r => by
  cases r
  obtain ⟨h1, _, its, _, ho⟩ := I.hok a _ e
  obtain ⟨o', e', hc, _⟩ := ho
  refine ⟨⟨o', e', hc⟩, fun b eb => ?_⟩
  cases eb
  exact ⟨o, h1, hd⟩
end
/-- a method over values: k says for which receivers it is there -/
def MetX (X : Cx) (b : Bg) (R : (Addr → Prop) → Hp → Hp → V → D → Prop) (name : Str) (k : D → Prop) (g : D → List D → (D → Prop) → Prop) : Prop :=
  ∀ (Z : Addr → Prop) (H : Hp) (x : V) (d : D), Gd b Z H → Rb b Z H x d → k d → ∃ r, AltOk X name x H r ∧ ∀ (H' : Hp) (xs : List V) (ds : List D) (Q : VK) (Qd : D → Prop), Ex b H H' → Gd b Z H' → Rb b Z H' x d → Rbs b Z H' xs ds → g d ds Qd →
    (∀ v H2 e, Ex b H' H2 → b.G H2 → R Z H' H2 v e → Qd e → Q v H2) → r x xs H' Q
@[simp] def vMth (k : D → Prop) (g : D → List D → (D → Prop) → Prop) (to : VT) (ta : VA) : VT := fun ρ Q E => to ρ (fun d => k d ∧ ta ρ (fun ds => g d ds Q) E) E
section
variable {X : Cx} {b : Bg} {W : WX} {o e : Expr} {es : List Expr} {to : VT} {ta : VA} {name : Str} {apos cpos : Pos} {k : D → Prop} {g : D → List D → (D → Prop) → Prop}
theorem coreM {R : (Addr → Prop) → Hp → Hp → V → D → Prop} (hR : ∀ Z H H1 H2 v d, b.G H1 → Ex b H H1 → R Z H1 H2 v d → R Z H H2 v d) (hd : MetX X b R name k g) :
    ∀ σ H Q, LE b W R (vMth k g to ta) σ H Q → tBMx X name (LE b W (fun Z _ H v d => Rb b Z H v d) to) (LAX b W ta) σ H Q :=
  fun σ H Q ⟨Zo, Z, ρ, Qd, Ed, v, q, l, m⟩ => ⟨Zo, Z, ρ, _, Ed, v, q, fun x H1 d x1 g1 r1 ⟨kd, q1⟩ => by
    have v1 := v.ex x1 g1
    obtain ⟨r, al, rr⟩ := hd Z H1 x d v1.gd r1 kd
    exact ⟨r, al, Zo, Z, ρ, _, Ed, v1, q1, fun xs H2 ds x2 g2 r2 q2 => rr H2 xs ds Q Qd x2 (v1.ex x2 g2).gd (r1.ex (v1.keep x2) x2) r2 q2 fun u H3 d3 x3 g3 r3 q3 => l u H3 d3 ((x1.trans x2).trans x3) g3 (hR _ _ _ _ _ _ g2 (x1.trans x2) r3) q3,
      fun c z H2 er x2 g2 r2 q2 => m c z H2 er (x1.trans x2) g2 r2 q2⟩, m⟩
theorem ve_mth (hd : MetX X b (RE b) name k g) (ho : VX X b W o to) (ha : VXs X b W (e :: es) ta)
    (hbase : attributeBase o name X.env (eval o X.env) = eval o X.env := by rfl)
    (hfew : ((backTo cpos (starEach (e :: es) X.env)).all (fun x => !x.1) && (backToKw cpos (keywordEach [] X.env)).all (fun x => x.1.isSome)
      && decide ((e :: es).length + ([] : List Keyword).length + (if ([] : List Keyword).isEmpty then 0 else 1) < 30)) = true := by rfl)
    (hline : (apos.endLine == cpos.line) = true := by rfl) (hs : starEach (e :: es) X.env = (false, eval e X.env) :: starEach es X.env := by rfl) (hplain : (backTo cpos (starEach es X.env)).any (·.1) = false := by rfl) :
    VE X b W (.Call (.Attribute o name apos) (e :: es) [] cpos) (vMth k g to ta) := pe_mono (pe_bmx ho ha hbase hfew hline hs hplain) (coreM hRE hd)
end
/-! ### texts -/
@[simp] def isS : D → Prop
  | .py (.str _) => True
  | _ => False
theorem isS_ex : ∀ {d : D}, isS d → ∃ z, d = .py (.str z)
  | .py (.str z), _ => ⟨z, rfl⟩
/-- how often c stands in l: of one sign -/
@[simp] def gTCount : D → List D → (D → Prop) → Prop
  | .py (.str a), [.py (.str b)], Q => Q (.py (.int (Txt.count a b)))
  | _, _, _ => False
theorem mx_count {X : Cx} {b : Bg} : MetX X b (RE b) "count" isS gTCount := fun Z H x d gd rx kd => by
  obtain ⟨z, rfl⟩ := isS_ex kd
  obtain rfl := rx.str
  refine ⟨_, ⟨"str", _, PySem.F.plainAttrs_str, PySem.F.slot_str_count, PySem.F.type_str_count, mt_count, ty_str z⟩, fun H' xs ds Q Qd _ gd' _ rs h k => ?_⟩
  match ds, h, rs with
  | [.py (.str c)], h, .cons r .nil =>
    obtain rfl := r.str
    exact ⟨z, c, rfl, rfl, k _ H' (.py (.int _)) Ex.refl gd'.g (.int _) h⟩
@[simp] def gTJoin : D → List D → (D → Prop) → Prop
  | .py (.str a), [.py (.list xs)], Q => ∃ ys, allS xs = some ys ∧ (ys.map (·.length)).sum + ys.length * a.length ≤ 16777216 ∧ Q (.py (.str (Txt.join a ys)))
  | _, _, _ => False
theorem mx_join {X : Cx} {b : Bg} : MetX X b (RE b) "join" isS gTJoin := fun Z H x d gd rx kd => by
  obtain ⟨z, rfl⟩ := isS_ex kd
  obtain rfl := rx.str
  refine ⟨_, ⟨"str", _, PySem.F.plainAttrs_str, PySem.F.slot_str_join, PySem.F.type_str_join, mt_join, ty_str z⟩, fun H' xs ds Q Qd _ gd' _ rs h k => ?_⟩
  match ds, h, rs with
  | [.py (.list ps)], ⟨ys, e, hl, h⟩, .cons r .nil =>
    obtain ⟨a, us, rfl, ha, qa⟩ := r.list
    rw [allS_of e] at qa
    have eu := qa.strs
    subst eu
    exact ⟨z, a, ys, rfl, rfl, .inl (SqL.of ha), hl, k _ H' (.py (.str _)) Ex.refl gd'.g (.str _) h⟩
@[simp] def gTUpper : D → List D → (D → Prop) → Prop
  | .py (.str a), [], Q => a.length ≤ 5592405 ∧ Q (.py (.str (Txt.upper a)))
  | _, _, _ => False
@[simp] def gTSplit : D → List D → (D → Prop) → Prop
  | .py (.str a), [.py (.str b)], Q => (b.length == 0) = false ∧ a.length + 2 ≤ 16777216 ∧ Q (.py (.list ((Txt.split a b).map PyData.str)))
  | _, _, _ => False
end VL
set_option Elab.async false
set_option linter.all false
set_option maxRecDepth 100000
set_option maxHeartbeats 4000000
namespace VL
open PySem PySem.Spec PyProof.Rows L2 HT
/-! ### index by plain data -/
/-- the first place of an equal one -/
def ixOf : List PyData → PyData → Option Nat
  | [], _ => none
  | z :: zs, d => if z.eqv d = true then some 0 else (ixOf zs d).map (· + 1)
theorem ixOf_some : ∀ {ds : List PyData} {d : PyData} {j : Nat}, ixOf ds d = some j → ∃ z, ds[j]? = some z ∧ z.eqv d = true ∧ ∀ (m : Nat) (z' : PyData), m < j → ds[m]? = some z' → z'.eqv d = false
  | [], _, _, h => by cases h
  | z :: zs, d, j, h => by
    unfold ixOf at h
    split at h
    · rename_i c
      cases h
      exact ⟨z, rfl, c, fun m z' hm => by omega⟩
    · rename_i c
      cases e : ixOf zs d with
      | none => rw [e] at h; cases h
      | some i =>
        rw [e] at h
        cases h
        obtain ⟨y, h1, h2, h3⟩ := ixOf_some e
        refine ⟨y, by simpa using h1, h2, fun m z' hm hz => ?_⟩
        have hm' : m < i + 1 := hm
        cases m with
        | zero => simp at hz; subst hz; simpa using c
        | succ m => exact h3 m z' (by omega) (by simpa using hz)
section
variable {X : Cx}
def rIxP (tup : Bool) : V → List V → Hp → VK → Prop := fun x xs H Q => ∃ (a : Addr) (y : V) (d : PyData) (ds : List PyData) (j : Nat), x = .ref a ∧ xs = [y] ∧ Rq nz H (.ref a) (if tup = true then .tuple ds else .list ds) ∧ Rq nz H y d ∧ PyData.plainAll ds = true ∧ d.plain = true ∧
  (d.depth ≤ 60 ∨ PyData.depthAll ds ≤ 60) ∧ ixOf ds d = some j ∧ Q (.int (j : Nat)) H
theorem ix_at {s : Shared} {its : List Value} {ds : List PyData} {as : List Addr} {d : PyData} {j : Nat} (h4 : ReadsAll s.heap its ds as) (hp : PyData.plainAll ds = true) (hj : ixOf ds d = some j) :
    ∃ hjl : j < its.toArray.size, PyData.eqv (SeqAt.readOf s.heap its.toArray[j]) d = true ∧ ∀ m (hm : m < its.toArray.size), m < j → PyData.eqv (SeqAt.readOf s.heap its.toArray[m]) d = false := by
  obtain ⟨z, hz, h1, h2⟩ := ixOf_some hj
  have hn : its.length = ds.length := SeqAt.ReadsAll.length ds its as h4
  have hmap : its.map (SeqAt.readOf s.heap) = ds := SeqAt.readsAll_map_plain ds its as hp h4
  have at_ : ∀ (m : Nat) (hm : m < its.toArray.size) (z' : PyData), ds[m]? = some z' → SeqAt.readOf s.heap its.toArray[m] = z' := by
    intro m hm z' hz'
    have hml : m < its.length := by simpa using hm
    rw [← hmap, List.getElem?_map, List.getElem?_eq_getElem hml] at hz'
    have e1 : SeqAt.readOf s.heap its[m] = z' := Option.some.inj (show some (SeqAt.readOf s.heap its[m]) = some z' from hz')
    simpa using e1
  have hjd : j < ds.length := (List.getElem?_eq_some_iff.mp hz).1
  have hjl : j < its.toArray.size := by simp; omega
  refine ⟨hjl, by rw [at_ j hjl z hz]; exact h1, fun m hm hmj => ?_⟩
  have hz' : ds[m]? = some ds[m] := List.getElem?_eq_getElem (by omega)
  rw [at_ m hm _ hz']
  exact h2 m _ hmj hz'
theorem mt_ixL (hu : X.A.units + 65 < cLine) : MtR X "list.index" (rIxP false) := by
  intro pins s σ H x xs v us Q I rx rxs ⟨a, y, d, ds, j, ex, exs, hl, hy, pl, pd, hd, hj, q⟩
  subst ex exs
  cases rx
  obtain ⟨uy, rfl, ry⟩ := vals1 rxs
  obtain ⟨bs, r1, _⟩ := hy.reads I _ ry
  have hroom : X.A.units + 1 + min (PyData.depthAll ds) d.depth < cLine := by omega
  have hl : Rq nz H (.ref a) (.list ds) := hl
  cases hl with
  | lst e n ha =>
    obtain ⟨its, rv, ⟨⟨cls, dd, data, sls⟩, n, ho, hc, hdn, hdt⟩, hlen⟩ := I.list (SqL.of e)
    simp only at hc hdt
    subst hc hdt
    obtain ⟨as, h4, _⟩ := ha.reads I its rv
    obtain ⟨hjl, h1, h2⟩ := ix_at h4 pl hj
    have hsl := sizeLine_eq
    have hvl := rv.length
    have hjz : j < its.length := by simpa using hjl
    refine call_meets PySem.F.slot_list_index ⟨_, ho, rfl⟩ PySem.F.entry_list_index (PySem.F.args_list_index_2 _ _)
      (SeqAt.list_indexAt a its.toArray n dd sls uy (fun u => PyData.eqv (SeqAt.readOf s.heap u) d) j hjl (by omega) h1 h2) ⟨ho, SeqAt.items_plain (vs := its.toArray) (show ReadsAll s.heap its.toArray.toList ds as from h4) r1 pl pd hroom, ?_⟩
    exact ⟨.int (j : Nat), H, I.tok _, ⟨_, rfl⟩, q⟩
theorem mt_ixT (hu : X.A.units + 65 < cLine) : MtR X "tuple.index" (rIxP true) := by
  intro pins s σ H x xs v us Q I rx rxs ⟨a, y, d, ds, j, ex, exs, hl, hy, pl, pd, hd, hj, q⟩
  subst ex exs
  cases rx
  obtain ⟨uy, rfl, ry⟩ := vals1 rxs
  obtain ⟨bs, r1, _⟩ := hy.reads I _ ry
  have hroom : X.A.units + 1 + min (PyData.depthAll ds) d.depth < cLine := by omega
  have hl : Rq nz H (.ref a) (.tuple ds) := hl
  cases hl with
  | tup e _ n ha =>
    obtain ⟨its, rv, ⟨⟨cls, dd, data, sls⟩, ho, hc, n, hdt⟩, hlen⟩ := I.tuple (SqT.th e)
    simp only at hc hdt
    subst hc hdt
    obtain ⟨as, h4, _⟩ := ha.reads I its rv
    obtain ⟨hjl, h1, h2⟩ := ix_at h4 pl hj
    refine call_meets PySem.F.slot_tuple_index ⟨_, ho, rfl⟩ PySem.F.entry_tuple_index (PySem.F.args_tuple_index_2 _ _)
      (TI.tuple_indexAt a its.toArray n dd sls uy (fun u => PyData.eqv (SeqAt.readOf s.heap u) d) j hjl h1 h2) ⟨ho, SeqAt.items_plain (vs := its.toArray) (show ReadsAll s.heap its.toArray.toList ds as from h4) r1 pl pd hroom, ?_⟩
    exact ⟨.int (j : Nat), H, I.tok _, ⟨_, rfl⟩, q⟩
end
@[simp] def isSq : D → Prop
  | .py (.list _) => True
  | .py (.tuple _) => True
  | _ => False
@[simp] def gIndex : D → List D → (D → Prop) → Prop
  | .py (.list xs), [.py d], Q => PyData.plainAll xs = true ∧ d.plain = true ∧ (d.depth ≤ 60 ∨ PyData.depthAll xs ≤ 60) ∧ ∃ j, ixOf xs d = some j ∧ Q (.py (.int (j : Nat)))
  | .py (.tuple xs), [.py d], Q => PyData.plainAll xs = true ∧ d.plain = true ∧ (d.depth ≤ 60 ∨ PyData.depthAll xs ≤ 60) ∧ ∃ j, ixOf xs d = some j ∧ Q (.py (.int (j : Nat)))
  | _, _, _ => False
theorem mx_index {X : Cx} {b : Bg} (hu : X.A.units + 65 < cLine) : MetX X b (RE b) "index" isSq gIndex := fun Z H x d gd rx kd => by
  match d, kd, rx with
  | .py (.list ps), _, rx =>
    obtain ⟨a, us, rfl, ha, _⟩ := rx.list
    refine ⟨_, ⟨"list", _, PySem.F.plainAttrs_list, PySem.F.slot_list_index, PySem.F.type_list_index, mt_ixL hu, ty_lst ha⟩, fun H' xs ds Q Qd _ gd' rx' rs h k => ?_⟩
    match ds, h, rs with
    | [.py c], ⟨h1, h2, h3, j, h4, h⟩, .cons r .nil =>
      exact ⟨a, _, c, ps, j, rfl, rfl, rx'.q, r.q, h1, h2, h3, h4, k _ H' (.py (.int _)) Ex.refl gd'.g (.int _) h⟩
  | .py (.tuple ps), _, rx =>
    obtain ⟨a, o, us, rfl, ha, hd, _, _⟩ := rx.tuple
    refine ⟨_, ⟨"tuple", _, PySem.F.plainAttrs_tuple, PySem.F.slot_tuple_index, PySem.F.type_tuple_index, mt_ixT hu, ty_tup ha hd⟩, fun H' xs ds Q Qd _ gd' rx' rs h k => ?_⟩
    match ds, h, rs with
    | [.py c], ⟨h1, h2, h3, j, h4, h⟩, .cons r .nil =>
      exact ⟨a, _, c, ps, j, rfl, rfl, rx'.q, r.q, h1, h2, h3, h4, k _ H' (.py (.int _)) Ex.refl gd'.g (.int _) h⟩
/-- how often: of a text, of a list of ints -/
@[simp] def isCt : D → Prop
  | .py (.str _) => True
  | .py (.list _) => True
  | _ => False
@[simp] def gCount : D → List D → (D → Prop) → Prop
  | .py (.str a), [.py (.str b)], Q => Q (.py (.int (Txt.count a b)))
  | .py (.list xs), [.py (.int k)], Q => ∃ ns, allI xs = some ns ∧ Q (.py (.int (ns.count k : Nat)))
  | _, _, _ => False
theorem mx_cnt {X : Cx} {b : Bg} : MetX X b (RE b) "count" isCt gCount := fun Z H x d gd rx kd => by
  match d, kd, rx with
  | .py (.str z), _, rx =>
    obtain ⟨r, al, h⟩ := mx_count Z H x (.py (.str z)) gd rx trivial
    exact ⟨r, al, fun H' xs ds Q Qd x1 gd' rx' rs g k => h H' xs ds Q Qd x1 gd' rx' rs (by
      match ds, g with
      | [.py (.str c)], g => exact g) k⟩
  | .py (.list ps), _, rx =>
    obtain ⟨a, us, rfl, ha, _⟩ := rx.list
    refine ⟨_, ⟨"list", _, PySem.F.plainAttrs_list, PySem.F.slot_list_count, PySem.F.type_list_count, mt_lcount, ty_lst ha⟩, fun H' xs ds Q Qd _ gd' rx' rs h k => ?_⟩
    match ds, h, rs with
    | [.py (.int c)], ⟨ns, e, h⟩, .cons r .nil =>
      obtain rfl := r.int
      obtain ⟨a', us', ea, ha', qa'⟩ := rx'.list
      cases ea
      rw [allI_of e] at qa'
      have eu := qa'.ints
      subst eu
      exact ⟨a, ns, c, rfl, rfl, SqL.of ha', k _ H' (.py (.int _)) Ex.refl gd'.g (.int _) h⟩
end VL
set_option Elab.async false
set_option linter.all false
set_option maxRecDepth 100000
set_option maxHeartbeats 4000000
namespace VL
open PySem PySem.Spec PyProof.Rows L2 HT
/-! ### text * int, text[::-1] -/
def repS (z : Str) (k : Int) : Str := mkS (List.replicate k.toNat (sl z)).flatten
theorem mkS_sl (z : Str) : mkS (sl z) = z := by cases z; simp [mkS, sl]
@[simp] theorem sl_mkS (l : List Nat) : sl (mkS l) = l := by simp [mkS, sl]
@[simp] theorem len_mkS (l : List Nat) : (mkS l).length = l.length := by simp [mkS, Str.length]
theorem slen (z : Str) : (sl z).length = z.length := by simp [sl, Str.length]
def rRepS : R2 := fun x y H Q => ∃ z k, x = .str z ∧ y = .int k ∧ -(2 ^ 63) ≤ k ∧ k < 2 ^ 63 ∧ z.length * k.toNat ≤ 16777216 ∧ Q (.str (repS z k)) H
theorem foldl_app (n : Nat) (a b : Array Nat) : (List.replicate n a).foldl (· ++ ·) b = (b.toList ++ (List.replicate n a.toList).flatten).toArray := by
  induction n generalizing b with
  | zero => simp
  | succ n ih => rw [List.replicate_succ, List.foldl_cons, ih, List.replicate_succ, List.flatten_cons]; simp
theorem op_repS {X : Cx} : OpR X (binaryOp .Mult) rRepS := by
  intro pins s σ H x y v u Q I rx ry ⟨z, k, ex, ey, h1, h2, h3, q⟩
  subst ex ey
  obtain ⟨t, rfl⟩ := rx
  obtain ⟨t2, rfl⟩ := ry
  refine P.mul_str (by rw [decide_eq_false (by omega), decide_eq_false (by omega)]; rfl) (fun c c2 => ?_) (fun c c2 => ?_) ?_
  · intro hgt
    have kp : 0 < k := by omega
    have hz : (z.length : Int) * k ≤ 16777216 := by
      have e : ((z.length * k.toNat : Nat) : Int) ≤ 16777216 := by omega
      have e2 : ((k.toNat : Nat) : Int) = k := by omega
      rw [Int.natCast_mul, e2] at e
      exact e
    have h5 : ((2 ^ 63 - 1 : Int) / k + 1) * k > 2 ^ 63 - 1 := by
      have := Int.lt_ediv_add_one_mul_self (2 ^ 63 - 1) kp
      exact this
    have h6 : ((2 ^ 63 - 1 : Int) / k + 1) * k ≤ (z.length : Int) * k := Int.mul_le_mul_of_nonneg_right (by omega) (by omega)
    omega
  · unfold Builtin.Str.tooLong
    rw [sizeLine_eq]
    exact decide_eq_false (by omega)
  · by_cases c : k < 1
    · rw [if_pos c]
      refine ⟨by show 0 ≤ sizeLine; omega, .str Str.empty, H, I.tok _, ⟨_, rfl⟩, ?_⟩
      have e : repS z k = Str.empty := by
        unfold repS
        have : k.toNat = 0 := by omega
        rw [this]
        rfl
      rw [← e]; exact q
    · rw [if_neg c]
      split
      · rename_i c2
        have e : repS z k = z := by
          unfold repS
          rcases Bool.or_eq_true_iff.mp c2 with c3 | c3
          · have : k = 1 := eq_of_beq c3
            subst this
            show mkS (List.replicate 1 (sl z)).flatten = z
            simp [mkS_sl]
          · have hz : (sl z).length = 0 := by rw [slen]; exact eq_of_beq c3
            have hz' : sl z = [] := List.length_eq_zero_iff.mp hz
            rw [hz']
            have : (List.replicate k.toNat ([] : List Nat)).flatten = [] := by simp
            rw [this, ← hz', mkS_sl]
        refine ⟨.str z, H, I, ⟨_, rfl⟩, ?_⟩
        rw [← e]; exact q
      · refine ⟨?_, .str (repS z k), H, ?_⟩
        · show Array.size _ ≤ sizeLine
          rw [foldl_app, List.size_toArray]
          simp
          rw [Nat.mul_comm]
          have : z.cps.size = z.length := rfl
          rw [this]
          exact h3
        · have e : (⟨(List.replicate k.toNat z.cps).foldl (· ++ ·) #[]⟩ : Str) = repS z k := by
            rw [foldl_app]; rfl
          rw [e]
          exact ⟨I.tok _, ⟨_, rfl⟩, q⟩
section
variable {X : Cx} {b : Bg} {W : WX} {e e1 e2 st : Expr} {t t1 t2 : VT} {tl : VO} {p2 pos : Pos}
@[simp] def gBkA : D → (D → Prop) → Prop
  | .py (.list xs), Q => Q (.py (.list xs.reverse))
  | .py (.tuple xs), Q => Q (.py (.tuple xs.reverse))
  | .py (.str z), Q => z.length ≤ 16777216 ∧ Q (.py (.str (mkS (sl z).reverse)))
  | _, _ => False
@[simp] def vBkA (t : VT) (tl : VO) : VT := fun ρ Q E => t ρ (fun x => tl ρ (fun k => k = some (-1) ∧ gBkA x Q) E) E
/-- products, of a text too -/
@[simp] def gMulA : D → D → (D → Prop) → Prop
  | .py (.int i), .py (.int j), Q => CMul i j ∧ Q (.py (.int (i * j)))
  | .py (.list xs), .py (.int k), Q => (-(2 ^ 63) ≤ k ∧ k < 2 ^ 63 ∧ xs.length * k.toNat ≤ sizeLine) ∧ Q (.py (.list (List.replicate k.toNat xs).flatten))
  | .py (.tuple xs), .py (.int k), Q => (xs ≠ [] ∧ 2 ≤ k ∧ k ≤ 1000 ∧ xs.length ≤ 1000) ∧ Q (.py (.tuple (List.replicate k.toNat xs).flatten))
  | .py (.str z), .py (.int k), Q => (-(2 ^ 63) ≤ k ∧ k < 2 ^ 63 ∧ z.length * k.toNat ≤ 16777216) ∧ Q (.py (.str (repS z k)))
  | _, _, _ => False
theorem rd_mulA : OpD b (RE b) (fun x y H Q => (fun x y H Q => rI CMul (fun i j => .int (i * j)) x y H Q ∨ (fun x y H Q => rRep x y H Q ∨ rRepF X.K x y H Q) x y H Q) x y H Q ∨ rRepS x y H Q) gMulA := by
  intro Z H x y dx dy Q Qd gd rx ry h k
  match dx, dy, h, rx, ry with
  | .py (.int i), .py (.int j), h, rx, ry => exact .inl (rd_mul Z H x y (.py (.int i)) (.py (.int j)) Q Qd gd rx ry h k)
  | .py (.list xs), .py (.int n), h, rx, ry => exact .inl (rd_mul Z H x y (.py (.list xs)) (.py (.int n)) Q Qd gd rx ry h k)
  | .py (.tuple xs), .py (.int n), h, rx, ry => exact .inl (rd_mul Z H x y (.py (.tuple xs)) (.py (.int n)) Q Qd gd rx ry h k)
  | .py (.str z), .py (.int n), ⟨⟨h1, h2, h3⟩, h⟩, rx, ry =>
    obtain rfl := rx.str
    obtain rfl := ry.int
    exact .inr ⟨z, n, rfl, rfl, h1, h2, h3, k _ H (.py (.str _)) Ex.refl gd.g (.str _) h⟩
theorem ve_mulA (h1 : VX X b W e1 t1) (h2 : VX X b W e2 t2) : VE X b W (.BinOp e1 .Mult e2 pos) (vBin gMulA t1 t2) := ve_op (OpR.or (OpR.or op_mul (OpR.or op_rep op_repF)) op_repS) rd_mulA h1 h2
end
/-! ### name op= value -/
@[simp] def gAugAdd : D → D → (D → Prop) → Prop
  | .py (.int i), .py (.int j), Q => Q (.py (.int (i + j)))
  | .py (.str x), .py (.str y), Q => x.length + y.length ≤ 16777216 ∧ Q (.py (.str (x ++ y)))
  | _, _, _ => False
@[simp] def gAugSub : D → D → (D → Prop) → Prop
  | .py (.int i), .py (.int j), Q => Q (.py (.int (i - j)))
  | _, _, _ => False
@[simp] def sAugA (i : Nat) (g : D → D → (D → Prop) → Prop) (t : VT) : VS := fun ρ De => ∃ d0, ρ[i]? = some (.shr d0) ∧ t ρ (fun d => g d0 d fun z => De.nx (ρ.set i (.shr z))) (De.ex ρ)
section
variable {X : Cx} {b : Bg} {W : WX} {e : Expr} {t : VT} {pos pos' : Pos} {i : Nat} {x : Str}
/-- xs[i] = v, an owned list -/
def setAt (xs : List PyData) (k : Int) (p : PyData) : Option (List PyData) := (ixN xs.length k).map fun j => xs.set j p
@[simp] def sStoL (i : Nat) (ty tv : VT) : VS := fun ρ De => ∃ xs, ρ[i]? = some (.own (.py (.list xs))) ∧ tv ρ (fun v => ∃ p, v = .py p ∧ ty ρ (fun y => ∃ k, y = .py (.int k) ∧ ∃ ys, setAt xs k p = some ys ∧ De.nx (ρ.set i (.own (.py (.list ys))))) (De.ex ρ)) (De.ex ρ)
theorem vs_stoL {o ei : Expr} {ty tv : VT} (ho : PE X o (tVar i)) (hi : VE X b W ei ty) (hv : VE X b W e tv)
    (ha : ∀ v, assign (.Subscript o ei pos') X.env v = (do
      let ov ← holding [v] (eval o X.env)
      let iv ← holding [v, ov] (eval ei X.env)
      standAt pos'
      holding [v, ov, iv] (setItem ov iv v)
      release [v, ov, iv] []) := by intro _; rfl)
    (hs : swapsWithSole [.Subscript o ei pos'] e pos.line X.env = pure false := by rfl) (hw : swappedStores [.Subscript o ei pos'] e X.env = pure none := by rfl)
    (h1 : (assignEach [.Subscript o ei pos'] X.env).map (·.2) = [assign (.Subscript o ei pos') X.env] := by rfl) : VSt X b W (.Assign [.Subscript o ei pos'] e pos) (sStoL i ty tv) :=
  ps_mono (ps_asg hv (pg_sub ho hi set_list ha) hs hw h1) fun Dn σ H ⟨H0, M, Zo, Z, ρ, De, f, ⟨xs, e1, q⟩, l⟩ => by
    refine ⟨Zo, Z, ρ, _, _, f.v, q, fun v H1 dv x1 g1 r1 ⟨p, ep, q1⟩ => ?_, l.er f⟩
    subst ep
    have f1 := f.ex x1 g1
    obtain ⟨a, h1, h2, h3, h4⟩ := f1.v.own i _ e1
    refine ⟨.ref a, h1, Zo, Z, ρ, _, _, f1.v, q1, fun y H2 dy x2 g2 r2 ⟨k, ey, ys, es, q2⟩ => ?_, l.er f1⟩
    subst ey
    obtain rfl := Rb.int (b := b) (Z := Z) (H := H2) (.inl r2)
    have f2 := f1.ex x2 g2
    obtain ⟨a', h1', h2', h3', xs', h4', h5'⟩ := f2.v.own i _ e1
    rw [h1] at h1'; cases h1'
    unfold setAt at es
    cases ej : ixN xs.length k with
    | none => rw [ej] at es; cases es
    | some j =>
      rw [ej] at es; cases es
      refine ⟨a, xs', k, j, rfl, rfl, h4', by rw [h5'.length]; exact ej, l.nx _ _ _ _ (f2.mut (d' := .py (.list (xs.set j p))) e1 h1 ⟨_, upd_same, ?_⟩) q2⟩
      exact (h5'.set (f1.v.rq x2 r1) j).mono (fun c z => .inl z) fun c u e n => by
        rw [upd_ne (fun w => n (by rw [w]; exact h2))]
        exact e
end
end VL
set_option Elab.async false
set_option linter.all false
set_option maxRecDepth 100000
set_option maxHeartbeats 4000000
namespace VL
open PySem PySem.Spec PyProof.Rows L2 HT TL
theorem hu65 {A : Around} {k : Nat} (r : Room k A) : A.units + 65 < cLine := by have := r.un; omega
/-! ### texts as lists of signs -/
@[simp] theorem mkS_inj {a b : List Nat} : mkS a = mkS b ↔ a = b := ⟨fun e => by have := congrArg sl e; simpa using this, fun e => by rw [e]⟩
@[simp] theorem mkS_app (a b : List Nat) : mkS a ++ mkS b = mkS (a ++ b) := ext_tl (by rw [tl_append])
@[simp] theorem beq_mkS (a b : List Nat) : (mkS a == mkS b) = (a == b) := by
  by_cases h : a = b
  · subst h; simp
  · have h2 : mkS a ≠ mkS b := fun e => h (mkS_inj.mp e)
    rw [beq_eq_false_iff_ne.mpr h2, beq_eq_false_iff_ne.mpr h]
@[simp] theorem repS_mkS (l : List Nat) (k : Int) : repS (mkS l) k = mkS (List.replicate k.toNat l).flatten := rfl
@[simp] theorem cps_mkS (l : List Nat) : (mkS l).cps = l.toArray := rfl
def encC (c : Nat) : PyData := .str (mkS [c])
@[simp] theorem encC_eq (c : Nat) : encC c = .str (mkS [c]) := rfl
theorem signsD_mkS (l : List Nat) : signsD (mkS l) = l.map encC := rfl
@[simp] theorem str_ab (a b : Str) : (PyData.str a = PyData.str b) ↔ a = b := ⟨fun e => by injection e, fun e => by rw [e]⟩
open Builtin.Str in
theorem occ_step (z : Str) (c k lim : Nat) (st : Array Nat × Nat) (h1 : st.2 ≤ k) (h2 : st.1.size < lim) : StrLaws.occBody z ⟨#[c]⟩ z.length lim k st = if (sl z)[k]? = some c then pure (ForInStep.yield (st.1.push k, k + 1)) else pure (ForInStep.yield (st.1, st.2)) := by
  unfold StrLaws.occBody
  have e := StrLaws.subAt_one z c k
  by_cases h : (sl z)[k]? = some c
  · have h' := e.mpr h
    rw [if_pos ⟨⟨⟨h2, h1⟩, h'.1⟩, h'.2⟩, if_pos h]
    rfl
  · rw [if_neg (fun q => h (e.mp ⟨q.1.2, q.2⟩)), if_neg h]
theorem occ_sign (z : Str) (c : Nat) : ∀ (n k free : Nat) (acc : Array Nat), free ≤ k → acc.size ≤ k → k + n = z.length + 1 →
    (forIn (List.range' k n) (acc, free) (StrLaws.occBody z ⟨#[c]⟩ z.length (z.length + 1))).run.fst.toList.length = acc.size + ((sl z).drop k).count c
  | 0, k, free, acc, h1, h2, h3 => by
    have : (sl z).drop k = [] := List.drop_eq_nil_of_le (by rw [slen]; omega)
    rw [this]; simp
  | n + 1, k, free, acc, h1, h2, h3 => by
    rw [List.range'_succ, List.forIn_cons, occ_step z c k _ (acc, free) h1 (by show acc.size < _; omega)]
    by_cases hk : k < z.length
    · have hk' : k < (sl z).length := by rw [slen]; exact hk
      rw [List.drop_eq_getElem_cons hk', List.getElem?_eq_getElem hk']
      by_cases hc : (sl z)[k] = c
      · rw [if_pos (by rw [hc]), hc, List.count_cons_self]
        have := occ_sign z c n (k + 1) (k + 1) (acc.push k) (by omega) (by simp; omega) (by omega)
        rw [Array.size_push] at this
        simp only [pure_bind]
        omega
      · rw [if_neg (by simpa using hc), List.count_cons_of_ne (by simpa using hc)]
        exact occ_sign z c n (k + 1) free acc (by omega) (by omega) (by omega)
    · have e : (sl z).drop k = [] := List.drop_eq_nil_of_le (by rw [slen]; omega)
      rw [if_neg (by rw [List.getElem?_eq_none (by rw [slen]; omega)]; simp), e]
      have := occ_sign z c n (k + 1) free acc (by omega) (by omega) (by omega)
      have e2 : (sl z).drop (k + 1) = [] := List.drop_eq_nil_of_le (by rw [slen]; omega)
      rw [e2] at this
      exact this
theorem count_sign (z : Str) (c : Nat) : Txt.count z (mkS [c]) = ((sl z).count c : Nat) := by
  unfold Txt.count
  rw [StrLaws.occ_eq]
  have := occ_sign z c (z.length + 1 - 0) 0 0 #[] (by omega) (by simp) (by omega)
  simp at this ⊢
  exact_mod_cast this
@[simp] theorem count_mkS (l : List Nat) (c : Nat) : Txt.count (mkS l) (mkS [c]) = (l.count c : Nat) := by rw [count_sign, sl_mkS]
theorem join0 (ls : List (List Nat)) : Txt.join (mkS []) (ls.map mkS) = mkS ls.flatten := by
  rw [join_eq]
  refine ext_tl ?_
  rw [tl_join]
  have : (ls.map mkS).map tl = ls := by rw [List.map_map]; exact List.map_id ls
  rw [this]
  show joinL [] ls = ls.flatten
  have h : ∀ ls : List (List Nat), joinL [] ls = ls.flatten := by
    intro ls
    induction ls with
    | nil => rfl
    | cons p r ih =>
      cases r with
      | nil => simp [joinL]
      | cons q r => rw [joinL, ih]; simp
  exact h ls
@[simp] theorem atI_zero {α : Type} (x : α) (xs : List α) : atI (x :: xs) 0 = some x := by
  have e : ixN (x :: xs).length 0 = some 0 := by
    unfold ixN
    rw [if_pos (by omega), if_pos (by simp)]; rfl
  unfold atI
  rw [e]; rfl
theorem allS_mk (ls : List (List Nat)) : allS (ls.map fun l => PyData.str (mkS l)) = some (ls.map mkS) := by
  induction ls with
  | nil => rfl
  | cons l ls ih => simp [allS, ih]
theorem allI_mk (ls : List Int) : allI (ls.map PyData.int) = some ls := by
  induction ls with
  | nil => rfl
  | cons l ls ih => simp [allI, ih]
theorem allB_mk (ls : List Bool) : allB (ls.map PyData.bool) = some ls := by
  induction ls with
  | nil => rfl
  | cons l ls ih => simp [allB, ih]
theorem allI_pN (ls : List Nat) : allI (ls.map pN) = some (ls.map fun (n : Nat) => (n : Int)) := by
  have : ls.map pN = (ls.map fun (n : Nat) => (n : Int)).map PyData.int := by rw [List.map_map]; rfl
  rw [this, allI_mk]
section
variable {g : VTg} {tt : VB} {te : VT} {tb : VS} {De : VEnds} {ρ : VEnv} {Q : D → Prop} {α β : Type}
theorem lc_encF' (enc : α → PyData) (p : α → Bool) (e : α → PyData) {L : List α} (h : ∀ (i : Nat) (x : α), L[i]? = some x → ∀ k, (p x = true → k (some (e x))) → (p x = false → k none) → lcStep g tt te (.py (enc x)) ρ k)
    (hl : L.length < 16777216) (q : Q (.py (.list ((L.filter p).map e)))) : lcGo g tt te Q (L.map (D.py ∘ enc)) [] ρ := by
  rw [← List.map_map]; exact lc_encF enc p e h hl q
theorem lc_encM' (enc : α → PyData) (e : α → PyData) {L : List α} (h : ∀ (i : Nat) (x : α), L[i]? = some x → ∀ k, k (some (e x)) → lcStep g tt te (.py (enc x)) ρ k)
    (hl : L.length < 16777216) (q : Q (.py (.list (L.map e)))) : lcGo g tt te Q (L.map (D.py ∘ enc)) [] ρ := by
  rw [← List.map_map]; exact lc_encM enc e h hl q
theorem for_enc' (enc : α → PyData) (Iv : Nat → VEnv → Prop) {L : List α} (h0 : Iv 0 ρ) (h : ∀ i x ρ, L[i]? = some x → Iv i ρ → ∀ nx ct : VEnv → Prop, (∀ ρ', Iv (i + 1) ρ' → nx ρ' ∧ ct ρ') → g (.py (enc x)) ρ fun ρ1 => tb ρ1 ⟨nx, De.rt, De.nx, ct, De.ex⟩) (hd : ∀ ρ, Iv L.length ρ → De.nx ρ) :
    forGo g tb (L.map (D.py ∘ enc)) ρ De := by
  rw [← List.map_map]; exact for_enc enc Iv h0 h hd
end
end VL
set_option Elab.async false
set_option linter.all false
set_option maxRecDepth 100000
set_option maxHeartbeats 4000000
/-! ### isinstance of a caught error that has a dict -/
namespace PySem.W
open PySem PySem.Spec PySem.Calls PyProof.Rows
section
variable {prog : Program} {w : World} {A : Around} {E : Value → Shared → Prop} {s : Shared} {K : Frag} {x D : Addr} {ox : Obj} {od : Option Obj}
end
end PySem.W
namespace VL
open PySem PySem.Spec PyProof.Rows L2 HT
/-! ### own errors -/
/-- n is x, or x stands above all errors of the package -/
def errSub (n x : Str) : Bool := n == x || x == "LineError" || x == "ValueError"
/-- what the written part says of an error's class -/
structure ErrC (K : PySem.W.Frag) (C : Addr) : Prop where
  hg : PySem.W.findIn K (.ref C) "__getattribute__" = some (some (.builtin "BaseException.__getattribute__"))
  hk : PySem.W.findIn K (.ref C) "__getattr__" = some none
  hs : PySem.W.subIn K (.ref C) (.type "BaseException") = some true
  hd : PySem.W.hasDictIn K C = true
  ha : PySem.W.findIn K (.ref C) "__class__" = some (some (.builtin "object.__class__"))
  hn : PySem.W.specialIn K (.builtin "object.__class__") "__get__" = some (some (.builtin "getset_descriptor.__get__"))
  ht : PySem.W.takesIn K (.builtin "object.__class__") = some true
  hm : PySem.W.mroIn K C (.type "object") = some true
section
variable {b : Bg} {W : WX} {H0 : Hp} {M Zo Z : Addr → Prop} {σ : L2.St} {H H' : Hp} {ρ : VEnv} {De : VEnds} {Dn : Ends}
end
/-! ### try: .. except x as n: .. -/
/-- the ends of an except suite: the name is forgotten behind it -/
@[simp] def afterS (i : Nat) (De : VEnds) : VEnds := { nx := fun ρ2 => i < ρ2.length ∧ De.nx (ρ2.set i .un), rt := De.rt, bk := fun ρ2 => i < ρ2.length ∧ De.bk (ρ2.set i .un), ct := fun ρ2 => i < ρ2.length ∧ De.ct (ρ2.set i .un), ex := fun _ _ => False }
/-- i: the slot of n; names: the errors that may be met here -/
@[simp] def sTry (i : Nat) (names : List Str) (x : Str) (tb : VS) (ts : Addr → Option Addr → Er → VS) : VS := fun ρ De => i < ρ.length ∧
  tb ρ { De with ex := fun ρ' er => i < ρ'.length ∧ er.n ∈ names ∧ if errSub er.n x = true then ∀ a d, ts a d er (ρ'.set i (.shr (.err a d er.n er.fs))) (afterS i De) else De.ex ρ' er }
section
variable {X : Cx} {b : Bg} {Wout : WX} {names : List Str} {x n : Str} {i : Nat} {body suite : List Stmt} {b₀ : Stmt} {np pos pos' : Pos} {tb : VS} {ts : Addr → Option Addr → Er → VS}
end
end VL
set_option Elab.async false
set_option linter.all false
set_option maxRecDepth 100000
set_option maxHeartbeats 4000000
namespace VL
open PySem PySem.Spec PyProof.Rows L2 HT
abbrev veB : List Value := [.type "ValueError", .type "Exception", .type "BaseException", .type "object"]
/-! ### raise -/
/-- an error without fields can be made -/
structure Mk0 (K : PySem.W.Frag) (mg : Str → Option Value) (b : Bg) (n : Str) : Prop where
  g : mg n = some (.ref (b.cls n))
  q : PySem.W.excIn K (b.cls n) veB "ValueError.__new__" = true
  k : PySem.W.keepIn K (.ref (b.cls n)) = true
  s : PySem.W.subIn K (.ref (b.cls n)) (.type "BaseException") = some true
  t : PySem.W.typeIn K (.ref (b.cls n)) = some (.type "type")
theorem pmk_own0 {X : Cx} {C : Addr} {bmB : List Value} {B newId initId : String} {x : Str} {p pos : Pos} (F : ExcBaseFacts B newId initId bmB) (q : PySem.W.excIn X.K C bmB newId = true) (gC : X.mg x = some (.ref C))
    (kC : PySem.W.keepIn X.K (.ref C) = true) (r : Raises X (.ref C)) (hg : Gl X x) (hdb : (x == ("__debug__" : Str)) = false := by decide) :
    PMk X (.Call (.Name x p) [] [] pos) (fun _ H Q => Q (.ref C) none H) := by
  intro pins s σ H Q I h
  refine wpAny_Call_Name_kw (ld_glob I hg gC (PySem.W.callWith_K0 I.kIn kC ?_) hdb)
  show wpAny _ _ (call (.ref C) []) _ _ _
  obtain ⟨bm, N, nm, qn, bs, hdct, sn, sub, ab, col, dd, k0, k1, k2, k3, k5, mN, hC, hN, hni, T⟩ := exc_obj I.kIn q
  refine wpAny_call_exc_subT F T hC hN hni (fun h' e hm => ?_) (Nat.zero_le _)
  exact mk_of I hm r h (I.hok.gone hm.new)
@[simp] def sRaise0 (n : Str) : VS := fun ρ De => De.ex ρ ⟨n, []⟩
@[simp] def sRaise1 (n f : Str) (t : VT) : VS := fun ρ De => t ρ (fun d => ∃ p, d = .py p ∧ De.ex ρ ⟨n, [(f, p)]⟩) (De.ex ρ)
/-- what an error's own __init__ promises -/
def spInit (K : PySem.W.Frag) (f : Str) : Sp := fun vs H Q _ => ∃ (a C : Addr) (v : V), vs = [.ref a, v] ∧ OexC K C ∧ PySem.W.findIn K (.ref C) f = some none ∧ H a = some (exo a C none) ∧ ∀ dx, H dx = none → dx ≠ a → Q .non (upd (upd H dx (exd dx [(f, v)])) a (exo a C (some dx)))
theorem ok_init {P : Program} {w : World} {K : PySem.W.Frag} {mg : Str → Option Value} {base : Heap} {x qual f prm : Str} {st : Stmt} {fa : Addr} {fd : FuncData} {p1 p2 p3 p4 : Pos} (F : Fun K x qual st fa fd) (Sc : FnScope ["self", prm] ["self", prm] (defScope st))
    (hst : defBody st = [.Assign [.Attribute (.Name "self" p1) f p2] (.Name prm p3) p4]) (h0 : (defScope st).names.lookup ("self" : Str) = some .local) (h1 : (defScope st).names.lookup prm = some .local) (hd : (prm == ("__debug__" : Str)) = false) (hcd : (prm == ("__classdict__" : Str)) = false) :
    FnOk P w K mg base (L2.CX P w) 1 fa fd ["self", prm] (spInit K f) := by
  refine F.okX Sc (fun vs H Q E ⟨a, C, v, e, _⟩ => by rw [e]; rfl) fun cdv A outer s H vs Q E hr h => ?_
  rw [hst]
  refine ⟨_, pss_one (ps_ost (pe_var (i := 0) rfl (.inl h0)) (pe_var (i := 1) rfl (.inl h1) hd hcd)), ?_⟩
  obtain ⟨a, C, v, rfl, T, hno, e, q⟩ := h
  exact ⟨v, rfl, .ref a, rfl, a, C, rfl, T, hno, .inl ⟨e, fun dx hd hne => q dx hd hne⟩⟩
/-- an error with the field f can be made -/
structure Mk1 (P : Program) (w : World) (K : PySem.W.Frag) (mg : Str → Option Value) (base : Heap) (b : Bg) (n f : Str) where
  g : mg n = some (.ref (b.cls n))
  T : OexC K (b.cls n)
  hno : PySem.W.findIn K (.ref (b.cls n)) f = some none
  fI : Addr
  fd : FuncData
  prm : Str
  iC : PySem.W.findIn K (.ref (b.cls n)) "__init__" = some (some (.ref fI))
  tI : PySem.W.typeIn K (.ref fI) = some (.type "function")
  F : FnOk P w K mg base (L2.CX P w) 1 fI fd ["self", prm] (spInit K f)
  bd : Binds K fd ["self", prm] []
section
variable {X : Cx} {b : Bg} {W : WX} {n f : Str} {e : Expr} {t : VT} {p pos pos2 : Pos} {j : Nat}
theorem vs_raise0 (M : Mk0 X.K X.mg b n) (hc : X.calm = true) (tk : Takes X W) (hg : Gl X n) (hdb : (n == ("__debug__" : Str)) = false := by decide) : VSt X b W (.Raise (some (.Call (.Name n p) [] [] pos)) none pos2) (sRaise0 n) :=
  ps_mono (ps_raise hc tk (pmk_own0 PySem.F.excBase_ValueError M.q M.g M.k (raises_own M.s M.t) hg hdb)) fun D σ H ⟨H0, Mo, Zo, Z, ρ, De, fo, q, l⟩ => l.ex _ _ _ _ _ _ ⟨n, []⟩ fo ⟨rfl, .inl ⟨rfl, rfl⟩⟩ q
theorem vs_raise1 (M : Mk1 X.prog X.w X.K X.mg X.base b n f) (hr : Room j X.A) (hc : X.calm = true) (tk : Takes X W) (hg : Gl X n) (he : VE X b W e t) (hj : 2 ≤ j := by decide) (hdb : (n == ("__debug__" : Str)) = false := by decide)
    (hs : starEach [e] X.env = (false, eval e X.env) :: starEach [] X.env := by rfl) (hpl : (backTo pos (starEach [] X.env)).any (·.1) = false := by rfl) :
    VSt X b W (.Raise (some (.Call (.Name n p) [e] [] pos)) none pos2) (sRaise1 n f t) :=
  ps_mono (ps_raise hc tk (pmk_oex (k := 1) (ds := []) (dvs := []) M.T M.iC M.tI M.F (hr.mono hj) M.bd .nil passL hg M.g (va_cons he va_nil hs) hdb hs hpl)) fun D σ H ⟨H0, Mo, Zo, Z, ρ, De, fo, q, l⟩ => by
    refine ⟨Zo, Z, ρ, fun ds => match ds with | [d] => ∃ p, d = .py p ∧ De.ex ρ ⟨n, [(f, p)]⟩ | _ => False, De.ex ρ, fo.v, q, fun vs H1 ds x1 g1 r1 q1 => ?_, l.er fo⟩
    match ds, q1, r1 with
    | [_], ⟨p, rfl, q1⟩, .cons (v := v) rv .nil =>
      refine ⟨by show 1 ≤ 1000; omega, fun a ha => ⟨a, b.cls n, v, rfl, M.T, M.hno, upd_same, fun dx hd hne => ⟨rfl, dx, [(f, v)], upd_same, ?_, ?_, ?_⟩⟩⟩
      · rw [upd_ne hne]; exact upd_same
      · rw [upd_ne hne] at hd; exact hd
      · have hd1 : H1 dx = none := by rw [upd_ne hne] at hd; exact hd
        generalize hHf : upd (del (upd (upd (upd H1 a (exo a (b.cls n) none)) dx (exd dx [(f, v)])) a (exo a (b.cls n) (some dx))) a) dx (.xd [(f, v)]) = Hf
        have at_ : ∀ c, c ≠ a → c ≠ dx → Hf c = H1 c := fun c c1 c2 => by rw [← hHf, upd_ne c2, del_ne c1, upd_ne c1, upd_ne c2, upd_ne c1]
        have hfd : Hf dx = some (.xd [(f, v)]) := by rw [← hHf]; exact upd_same
        have x2 : Ex b H1 Hf := fun c o hc _ => by
          rw [at_ c (fun z => by rw [z, ha] at hc; cases hc) (fun z => by rw [z, hd1] at hc; cases hc)]
          exact hc
        have g2 : b.G Hf := b.loc H1 Hf (fun c hc => at_ c (fun z => b.dom H1 c g1 hc (by rw [z]; exact ha)) (fun z => b.dom H1 c g1 hc (by rw [z]; exact hd1))) (fun c o _ e => by rw [at_ c (fun z => by rw [z, ha] at e; cases e) (fun z => by rw [z, hd1] at e; cases e)]; exact e) g1
        have f1 := fo.ex x1 g1
        have f2 := f1.ex x2 g2
        refine l.ex _ _ _ _ _ _ ⟨n, [(f, _)]⟩ f2 ⟨rfl, .inr ⟨dx, _, rfl, hfd, f1.v.fresh hd1, .cons (f1.v.rq x2 rv) .nil⟩⟩ q1
end
end VL
set_option Elab.async false
set_option linter.all false
set_option maxRecDepth 100000
set_option maxHeartbeats 4000000
namespace VL
open PySem PySem.Spec PyProof.Rows L2 HT
/-! ### in an except suite: what is asked of the error -/
/-- the error's field f -/
@[simp] def vErrF (a : Addr) (d : Option Addr) (er : Er) (i : Nat) (nf : List Str) (f : Str) : VT := fun ρ Q _ => ρ[i]? = some (.shr (.err a d er.n er.fs)) ∧ er.n ∈ nf ∧ ∃ p, er.fs.lookup f = some p ∧ Q (.py p)
/-- isinstance(error, x) -/
@[simp] def vErrI (a : Addr) (d : Option Addr) (er : Er) (i : Nat) (names : List Str) (x : Str) : VT := fun ρ Q _ => ρ[i]? = some (.shr (.err a d er.n er.fs)) ∧ er.n ∈ names ∧ Q (.py (.bool (errSub er.n x)))
/-- isinstance(error, (x, ..)) -/
@[simp] def vErrIT (a : Addr) (d : Option Addr) (er : Er) (i : Nat) (names xs : List Str) : VT := fun ρ Q _ => ρ[i]? = some (.shr (.err a d er.n er.fs)) ∧ er.n ∈ names ∧ Q (.py (.bool (xs.any fun x => errSub er.n x)))
section
variable {X : Cx} {b : Bg} {W : WX} {a : Addr} {oe : Obj} {er : Er} {d : Option Addr} {pn : List (Addr × Obj)} {i : Nat} {names nf xs : List Str} {x f nm : Str} {pos p p1 p2 : Pos} {e e2 : Expr} {es : List Expr}
end
section
variable {X : Cx} {b : Bg} {W : WX} {a : Addr} {oe : Obj} {er : Er} {d : Option Addr} {pn : List (Addr × Obj)} {i : Nat} {names nf xs : List Str} {x f nm : Str} {pos p p1 p2 : Pos} {e e2 : Expr} {es : List Expr} {k1 : Nat}
end
end VL
set_option Elab.async false
set_option linter.all false
set_option maxRecDepth 100000
set_option maxHeartbeats 4000000
namespace VL
open PySem PySem.Spec PyProof.Rows L2 HT
/-! ### the facts of the errors' classes, for the join -/
/-- what every error's class that is raised must say -/
structure RaiB (K : PySem.W.Frag) (C : Addr) (n : Str) : Prop where
  ns : PySem.W.nsIn K mainGlobals n = some (some (.ref C))
  kC : PySem.W.keepIn K (.ref C) = true
  tyC : PySem.W.typeIn K (.ref C) = some (.type "type")
  sf : PySem.W.selfFirst K C = true
  ve : PySem.W.subIn K (.ref C) (.type "ValueError") = some true
  ec : ErrC K C
theorem raiB {K : PySem.W.Frag} {C : Addr} {n : Str} (a1 : PySem.W.nsIn K mainGlobals n = some (some (.ref C))) (a2 : PySem.W.keepIn K (.ref C) = true) (a3 : PySem.W.typeIn K (.ref C) = some (.type "type")) (a4 : PySem.W.selfFirst K C = true)
    (a5 : PySem.W.subIn K (.ref C) (.type "ValueError") = some true)
    (b1 : PySem.W.findIn K (.ref C) "__getattribute__" = some (some (.builtin "BaseException.__getattribute__"))) (b2 : PySem.W.findIn K (.ref C) "__getattr__" = some none) (b3 : PySem.W.subIn K (.ref C) (.type "BaseException") = some true) (b4 : PySem.W.hasDictIn K C = true)
    (b5 : PySem.W.findIn K (.ref C) "__class__" = some (some (.builtin "object.__class__"))) (b6 : PySem.W.specialIn K (.builtin "object.__class__") "__get__" = some (some (.builtin "getset_descriptor.__get__"))) (b7 : PySem.W.takesIn K (.builtin "object.__class__") = some true) (b8 : PySem.W.mroIn K C (.type "object") = some true) : RaiB K C n := ⟨a1, a2, a3, a4, a5, ⟨b1, b2, b3, b4, b5, b6, b7, b8⟩⟩
structure Rai0 (K : PySem.W.Frag) (n : Str) : Prop where
  ex : ∃ C : Addr, RaiB K C n ∧ PySem.W.excIn K C veB "ValueError.__new__" = true
theorem rai0 {K : PySem.W.Frag} {C : Addr} {n : Str} (r : RaiB K C n) (q : PySem.W.excIn K C veB "ValueError.__new__" = true) : Rai0 K n := ⟨C, r, q⟩
structure RaiI (K : PySem.W.Frag) (C : Addr) (n qual f : Str) (st : Stmt) : Prop where
  b : RaiB K C n
  T : OexC K C
  no : PySem.W.findIn K (.ref C) f = some none
  ini : ∃ (fI : Addr) (fd : FuncData), Fun K "__init__" qual st fI fd ∧ PySem.W.findIn K (.ref C) "__init__" = some (some (.ref fI)) ∧ PySem.W.typeIn K (.ref fI) = some (.type "function")
structure Rai1 (K : PySem.W.Frag) (n qual f : Str) (st : Stmt) : Prop where
  ex : ∃ C : Addr, RaiI K C n qual f st
theorem rai1 {K : PySem.W.Frag} {C fI : Addr} {n qual f : Str} {st : Stmt} {oc kV doc pm cdv ct : Value} {od an : Option Addr} {osl : Array (Option Value)} {nm q : Str} {N : Addr} {bs bm : List Value} {sn : List Str} {sub : List Value} {ab : Bool} {col : Option Bool} {dd : Option Addr} {k0 k1 k2 k3 k5 : Option Value} (r : RaiB K C n)
    (c1 : K.lookup C = some (excClassObj nm q C N bs bm true sn sub ab col dd k0 k1 k2 k3 k5 "ValueError.__new__")) (c2 : PySem.HandSPX.refsVE bm = true) (c3 : PySem.W.findIn K (.ref C) "__setattr__" = some (some (.builtin "object.__setattr__"))) (c4 : PySem.W.findIn K (.ref C) f = some none)
    (d1 : PySem.W.findIn K (.ref C) "__init__" = some (some (.ref fI))) (d2 : PySem.W.typeIn K (.ref fI) = some (.type "function")) (d3 : K.lookup fI = some ⟨oc, od, .func (PySem.W.fnOf "__init__" qual (defArgs st) (defBody st) (defScope st) .none kV doc pm an cdv ct), osl⟩) (d4 : PySem.W.codeIn K cdv qual = true) (d5 : PySem.W.keepIn K (.ref fI) = true) : Rai1 K n qual f st :=
  ⟨C, r, ⟨⟨nm, q, N, bs, bm, sn, sub, ab, col, dd, k0, k1, k2, k3, k5, c1, c2⟩, c3, r.ec.hs, r.tyC, r.kC⟩, c4, fI, _, fun_mk d3 d4 d5, d1, d2⟩
section
variable {K : PySem.W.Frag} {h : Heap} {mg : Str → Option Value} {b : Bg} {n x qual f prm : Str} {C : Addr} {st : Stmt} {names : List Str}
theorem RaiB.mk0 (r : RaiB K (b.cls n) n) (q : PySem.W.excIn K (b.cls n) veB "ValueError.__new__" = true) (X : K.In h) (G : h.Ns mainGlobals mg) : Mk0 K mg b n := ⟨PySem.W.mg_of X G r.ns, q, r.kC, r.ec.hs, r.tyC⟩
theorem RaiI.mk1 {P : Program} {w : World} {base : Heap} (r : RaiI K (b.cls n) n qual f st) (X : K.In h) (G : h.Ns mainGlobals mg) (wk : ∀ (fa : Addr) (fd : FuncData), Fun K "__init__" qual st fa fd → FnOk P w K mg base (L2.CX P w) 1 fa fd ["self", prm] (spInit K f))
    (bd : ∀ (kV doc pm : Value) (an : Option Addr) (cdv ct : Value) (us : List Value), us.length = (["self", prm] : List Str).length → bindArgs (PySem.W.fnOf "__init__" qual (defArgs st) (defBody st) (defScope st) .none kV doc pm an cdv ct) ⟨us, []⟩ = pure ((["self", prm] : List Str).zip us)) : Nonempty (Mk1 P w K mg base b n f) := by
  obtain ⟨fI, fd, F, iC, tI⟩ := r.ini
  exact ⟨⟨PySem.W.mg_of X G r.b.ns, r.T, r.no, fI, fd, prm, iC, tI, wk fI fd F, F.binds bd⟩⟩
end
/-- the classes' addresses by their names -/
def clsOf : List (Str × Addr) → Addr → Str → Addr
  | [], fa, _ => fa
  | (m, C) :: r, fa, n => if m = n then C else clsOf r fa n
theorem clsOf_hd {m : Str} {C fa : Addr} {r : List (Str × Addr)} : clsOf ((m, C) :: r) fa m = C := if_pos rfl
theorem clsOf_tl {m n : Str} {C fa : Addr} {r : List (Str × Addr)} (h : (m == n) = false) : clsOf ((m, C) :: r) fa n = clsOf r fa n := if_neg (by simpa using h)
/-- a def within a class -/
def clsDef (s : Stmt) (i : Nat) : Stmt := match s with
  | .ClassDef _ _ _ b _ _ _ _ _ _ _ => b.getD i (.Pass ⟨0, 0, 0, 0⟩)
  | s => s
end VL
set_option Elab.async false
set_option linter.all false
set_option maxRecDepth 100000
set_option maxHeartbeats 2000000
/-! VL38: defs with one star parameter, called plainly. -/
namespace VL
open PySem PySem.Spec PyProof.Rows L2
@[simp] def svStar (S : SV) : SV := fun ds Q E => ∃ ps, pys ds = some ps ∧ ps.length ≤ sizeLine ∧ S [.py (.tuple ps)] Q E
structure CalR (P : Program) (w : World) (K : PySem.W.Frag) (mg : Str → Option Value) (base : Heap) (b : Bg) (k : Nat) (x : Str) (S : SV) where
  f : Addr
  F : FnR P w K mg base (L2.CX P w) k f (spV b S)
  g : mg x = some (.ref f)
  kp : PySem.W.keepIn K (.ref f) = true
section
variable {CX : CXT} {P : Program} {w : World} {K : PySem.W.Frag} {mg : Str → Option Value} {base : Heap} {k : Nat} {f : Addr} {name qual : Str} {params : Arguments} {body : List Stmt} {scope : Scope} {dV kV doc pm cdv ct oc : Value} {an od : Option Addr}
  {osl : Array (Option Value)} {N ps : List Str} {sp : Sp}
end
section
variable {P : Program} {w : World} {K : PySem.W.Frag} {mg : Str → Option Value} {base : Heap} {b : Bg} {k : Nat} {x qual pv : Str} {st : Stmt} {f : Addr} {fd : FuncData} {N : List Str} {S : SV}
end
section
variable {X : Cx} {b : Bg} {W : WX} {k j : Nat} {x : Str} {S : SV} {e : Expr} {es : List Expr} {u : VA} {p pos : Pos}
end
end VL
set_option Elab.async false
set_option linter.all false
set_option maxRecDepth 100000
set_option maxHeartbeats 2000000
/-! VL39: list.count of bools -/
namespace VL
open PySem PySem.Spec PyProof.Rows L2
theorem bools_vals : ∀ {us : List Value} {ns : List Bool}, Vals (ns.map V.bl) us → us = ns.map Value.bool
  | [], [], .nil => rfl
  | _, n :: ns, .cons r t => by
    cases r
    rw [List.map_cons, bools_vals t]
@[simp] def isLi : D → Prop
  | .py (.list _) => True
  | _ => False
@[simp] def gCountB : D → List D → (D → Prop) → Prop
  | .py (.list xs), [.py (.bool k)], Q => ∃ ns, allB xs = some ns ∧ Q (.py (.int (ns.count k : Nat)))
  | _, _, _ => False
end VL
set_option Elab.async false
set_option linter.all false
set_option maxRecDepth 100000
set_option maxHeartbeats 4000000
/-! VL40: the law's head for any background; the gear: a list of three numbers that a def draws from -/
namespace VL
open PySem PySem.Spec PyProof.Rows L2
theorem law_restX {B : Bg} {r : Addr} {H : Hp} {N : List Str} {i : Nat} {a : Addr} {t : VS} {Q : VK} {E : XK} (hG : B.G H) (h0 : 0 < N.length) (hi : i < N.length)
    (law : t (envBag N.length i r) (fin isTrue' noE)) (q : ∀ H', Q (.bl true) H') : LS B (WF E) t { nx := fun _ H' => Q .non H', rt := Q } ((L2.start N [.ref a]).set i (some (.ref r))) H := by
  have hl : (L2.start N [V.ref a]).length = N.length := by
    unfold L2.start
    rw [List.length_append, List.length_map, List.length_replicate, List.length_singleton]
    omega
  refine ⟨H, fun _ => False, B.B, B.B, _, _, ⟨⟨hG, fun _ z => z, fun _ z => z, fun a z => B.dom H a hG z, fun _ z => .inl z, fun j d e => ?_, fun j k d e c h1 _ _ _ => ?_, fun j d e => ?_, ?_⟩, fun _ _ e _ _ => e, fun j d c h1 _ => ?_⟩, law, ⟨fun _ _ _ _ _ h => (by cases h), fun v H' d _ _ rp h => ?_, fun _ _ _ _ _ h => h.elim, fun _ _ _ _ _ h => h.elim, fun _ _ _ _ _ _ _ _ _ h => h.elim⟩⟩
  · rcases envBag_at e with h | ⟨_, h⟩ <;> cases h
  · rcases envBag_at h1 with h | ⟨_, h⟩ <;> cases h
  · rcases envBag_at e with h | ⟨ej, h⟩
    · cases h
    · cases h
      subst ej
      exact ⟨.ref r, List.getElem?_set_self (by rw [hl]; exact hi), rfl⟩
  · unfold envBag
    rw [List.length_set, List.length_replicate, List.length_set, hl]
  · rcases envBag_at h1 with h | ⟨_, h⟩ <;> cases h
  · have h' : d = .py (.bool true) := h
    subst h'
    have rp' : Rq B.B H' v (.bool true) := rp
    cases rp'
    exact q H'
section
variable {P : Program} {w : World} {K : PySem.W.Frag} {mg : Str → Option Value} {base : Heap} {k k0 : Nat} {st : Stmt} {f fo : Addr} {fd fdo : FuncData} {N : List Str}
theorem lawX {ι : Type} (Bf : ι → Bg) (rf : ι → Addr) {spO : Sp} {bn on : Str} (hO : ∀ (a : Addr) (ns : List Int) (H : Hp) (Q : VK) (E : XK), SqL K H a (ns.map V.int) → ns.length ≤ 63 → (∀ x H', (Bf x).G H' → Q (.ref (rf x)) H') → spO [.ref a] H Q E) {i : Nat} {t : ι → VS} {p1 p2 p3 p4 p5 : Pos} {rest : List Stmt} {nm : Str} (F : Fun K nm nm st f fd) (Sc : FnScope N ["_law_script"] (defScope st))
    (hst : defBody st = .Assign [.Name bn p1] (.Call (.Name on p2) [.Name "_law_script" p3] [] p4) p5 :: rest)
    (FO : FnOk P w K mg base (L2.CX P w) k0 fo fdo ["_law_script"] spO) (gO : mg on = some (.ref fo)) (kO : PySem.W.keepIn K (.ref fo) = true) (bO : Binds K fdo ["_law_script"] []) (hk : k0 ≤ k) (hdb : (on == ("__debug__" : Str)) = false := by decide)
    (hi : N[i]? = some bn) (h0 : N[0]? = some ("_law_script" : Str)) (hloc : Loc (defScope st) bn) (hloc0 : (defScope st).names.lookup ("_law_script" : Str) = some .local) (hgl : (defScope st).names.lookup on = some .globalImplicit)
    (hbody : ∀ (x : ι) (cdv : Value) (A : Around) (outer : List Env) (s : Shared) (H : Hp) (E : XK), Room k (A.deeper (envOfC nm (defScope st) s.heap.objs.size f cdv)) → (A.deeper (envOfC nm (defScope st) s.heap.objs.size f cdv)).guards = some [] →
      Takes (cxOf (L2.CX P w) P w K mg base N nm (defScope st) f cdv A outer s H E) (WF E) → VSs (cxOf (L2.CX P w) P w K mg base N nm (defScope st) f cdv A outer s H E) (Bf x) (WF E) rest (t x))
    (law : ∀ x, t x (envBag N.length i (rf x)) (fin isTrue' noE)) : FnG P w K mg base (k + 1) f fd ["_law_script"] (spLaw K) := by
  refine fnG F Sc (fun vs H Q E ⟨a, ns, e, _⟩ => by rw [e]; rfl) fun cdv A outer s H vs Q E hr hg ⟨a, ns, ev, hS, hl, q⟩ => ?_
  subst ev
  rw [hst]
  have tk : Takes (cxOf (L2.CX P w) P w K mg base N nm (defScope st) f cdv A outer s H E) (WF E) := takes_of rfl rfl rfl rfl
  have hN0 : 0 < N.length := (List.getElem?_eq_some_iff.mp h0).1
  have hNi : i < N.length := (List.getElem?_eq_some_iff.mp hi).1
  refine ⟨_, pss_cons (ps_set (X := cxOf (L2.CX P w) P w K mg base N nm (defScope st) f cdv A outer s H E) (i := i) Sc.nd hi hloc (pe_callS FO (hr.mono hk) ?_ gO kO bO (fun σ => passAt tk σ) (pa_cons (pe_var h0 (.inl hloc0)) pa_nil) hdb) (by rfl) (.inl rfl))
    (pss_ex fun x => hbody x cdv A outer s H E hr hg tk), ?_⟩
  · exact hgl
  · refine ⟨.ref a, ?_, hO a ns _ _ _ hS hl fun x H' hG => ⟨x, law_restX hG hN0 hNi (law x) q⟩⟩
    unfold L2.start
    rfl
end
/-! ### the gear -/
def gearAt (r : Addr) (H : Hp) : Prop := ∃ x y z : Int, H r = some (.lst [.int x, .int y, .int z])
def gearB (cls : Str → Addr) (r : Addr) : Bg where
  cls := cls
  B := fun a => a = r
  G := fun H => gearAt r H
  loc := fun H H' h _ ⟨x, y, z, e⟩ => ⟨x, y, z, by rw [h r rfl]; exact e⟩
  dom := fun H a ⟨x, y, z, e⟩ h => by
    have h : a = r := h
    subst h
    rw [e]; simp
def KeepG (r : Addr) (H H' : Hp) : Prop := ∀ a o, H a = some o → a ≠ r → H' a = some o
theorem KeepG.ex {cls : Str → Addr} {r : Addr} {H H' : Hp} (k : KeepG r H H') : Ex (gearB cls r) H H' := fun a o e n => k a o e fun h => n h
theorem KeepG.refl {r : Addr} {H : Hp} : KeepG r H H := fun _ _ e _ => e
theorem KeepG.upd {r : Addr} {H H1 : Hp} {o : HO} (h : KeepG r H H1) : KeepG r H (upd H1 r o) := fun a u e n => by rw [upd_ne n]; exact h a u e n
/-- what the def that draws promises -/
def spTooth : Sp := fun vs H Q _ => ∃ r, ∃ m : Int, vs = [.ref r, .int m] ∧ gearAt r H ∧ 0 < m ∧ m < 1606938044258990275541962092341162602522202993782792835301376 ∧ ∀ H' x, KeepG r H H' → gearAt r H' → 0 ≤ x → x < m → Q (.int x) H'
theorem tooth_v {P : Program} {w : World} {K : PySem.W.Frag} {mg : Str → Option Value} {base : Heap} {k : Nat} {f : Addr} {fd : FuncData} {ps : List Str} {CX : CXT} {cls : Str → Addr} {r : Addr} (h : FnOk P w K mg base CX k f fd ps spTooth) : FnOk P w K mg base CX k f fd ps (spV (gearB cls r) (svTake r)) :=
  h.imp fun vs H Q E ⟨Z, ds, Qd, Ed, g, rp, hh, l, _⟩ => by
    obtain ⟨m, ed, h1, h2, q⟩ := svTake_ex hh
    subst ed
    obtain ⟨x, y, rfl, rx, ry⟩ := rbs2 rp
    have ex : x = .ref r := rx
    have ey : y = .int m := Rb.int (b := gearB cls r) (.inl ry)
    subst ex ey
    exact ⟨r, m, rfl, g.g, h1, h2, fun H' x kp b' x0 x1 => l (.int x) H' (.py (.int x)) kp.ex b' (.int x) (q x x0 x1)⟩
/-- what the def that makes it promises -/
def spGear (K : PySem.W.Frag) : Sp := fun vs H Q _ => ∃ (a : Addr) (ns : List Int), vs = [.ref a] ∧ SqL K H a (ns.map V.int) ∧ ns.length ≤ 63 ∧ ∀ r H', gearAt r H' → Q (.ref r) H'
end VL
set_option Elab.async false
set_option linter.all false
set_option maxRecDepth 100000
set_option maxHeartbeats 2000000
/-! VL41: isinstance with a pair of classes; a promise that nothing may ask -/
namespace VL
open PySem PySem.Spec PyProof.Rows L2
@[simp] def vIsi2 (T1 T2 : String) (t : VT) : VT := fun ρ Q E => t ρ (fun d => ∃ p, d = .py p ∧ ∃ k1 k2, isK T1 p = some k1 ∧ isK T2 p = some k2 ∧ Q (.py (.bool (k1 || k2)))) E
section
variable {X : Cx} {b : Bg} {W : WX} {T1 T2 : String} {x1 x2 : Str} {e : Expr} {t : VT} {p p1 p2 p3 pos : Pos} {kk : Nat}
end
end VL
set_option Elab.async false
set_option linter.all false
set_option maxRecDepth 100000
set_option maxHeartbeats 4000000
/-! VL42: sorted of lists and tuples of ints -/
namespace VL
open PySem PySem.Spec PyProof.Rows L2
/-- sorted(t), a tuple of ints -/
def rSortedTup (K : PySem.W.Frag) : List V → Hp → VK → Prop := fun vs H Q => ∃ (a : Addr) (ns : List Int), vs = [V.ref a] ∧ SqT K H a (ns.map V.int) ∧
  ∀ (ns' : List Int) (p : Addr), ns'.Perm ns → ns'.Pairwise (· ≤ ·) → H p = none → Q (.ref p) (upd H p (.lst (ns'.map V.int)))
section
variable {X : Cx}
theorem cr_sortedTup : CallR X (.builtin "sorted") (rSortedTup X.K) := by
  intro pins s σ H vs us Q I r h
  obtain ⟨a, ns, rfl, hs, q⟩ := h
  obtain ⟨its, rv, ⟨o, ho, hc, n, hd⟩, hz⟩ := I.tuple hs
  rw [Vals.ref1 r]
  have hi := rv.ints
  have hzi : its.length ≤ sizeLine := by rw [← rv.length]; exact hz
  refine Calls.call_function_entry kind_sorted plain_sorted entry_sorted (args_sorted1 _) ?_
  unfold Builtin.«sorted»
  refine wpAny_bind (m := checkCount "sorted" 1 1 _) (wpAny_pure ?_)
  refine wpAny_bind (wpAny_collect_seq a (.inr rfl) ho hc hd (fun h' hk => ?_) (by rw [List.size_toArray]; exact hzi))
  have ei : its.toArray.toList = its := by simp
  rw [ei]
  have I2 : Inv X pins σ H { s with heap := h' } := I.kept (t' := s.toks) hk
  refine wpAny_bind (wpAny_newList ?_ hzi)
  have hoL : (h'.push (seqObj "list" its.toArray 0)).get? h'.objs.size = some (seqObj "list" its.toArray 0) := Heap.get?_push_size _ rfl
  refine wpAny_bind (wpAny_holding (wpAny_call_entry slot_list_sort ⟨_, hoL, rfl⟩ entry_list_sort (SrtO.list_sort_ord SrtO.swo_int hoL hzi (fun h2 => SrtO.ints_sortable hi h2) fun out hs hb => ⟨_, rfl, ?_⟩) (args_list_sort _)))
  obtain ⟨k1, k2, k3⟩ := SrtO.ints_out hi hs hb
  obtain ⟨ep, he'⟩ := PyProof.Rows.sortedHeap_at (vs := its) (out := out.toArray) hoL
  have hlen : ((out.map SrtO.iv).map V.int).length ≤ sizeLine := by
    rw [List.length_map, k2.length_eq]
    rw [List.length_map] at hz
    exact hz
  refine wpAny_pure ⟨_, rfl, ?_⟩
  exact ⟨.ref _, upd H h'.objs.size (.lst ((out.map SrtO.iv).map V.int)), I2.laid (t' := s.toks) (fun b u hu => by
    have hne : b ≠ h'.objs.size := Nat.ne_of_lt (Heap.lt_size hu)
    rw [PyProof.Rows.sortedHeap_old hne (Heap.lt_size (Heap.get?_push_of_some _ hu))]
    exact Heap.get?_push_of_some _ hu) (Nat.le_refl _) ⟨hlen, out, ep, vals_of_ints k1, he'⟩, rfl, q _ _ k2 k3 (I2.hok.fresh (Nat.le_refl _))⟩
end
/-! ### over values -/
theorem perm_sorted_eq : ∀ {xs ys : List Int}, xs.Perm ys → xs.Pairwise (· ≤ ·) → ys.Pairwise (· ≤ ·) → xs = ys
  | [], ys, h, _, _ => h.nil_eq
  | x :: xs, [], h, _, _ => (List.Perm.nil_eq h.symm).symm
  | x :: xs, y :: ys, h, h1, h2 => by
    rw [List.pairwise_cons] at h1 h2
    have e : x = y := by
      have m1 : x ∈ y :: ys := h.mem_iff.mp List.mem_cons_self
      have m2 : y ∈ x :: xs := h.mem_iff.mpr List.mem_cons_self
      rcases List.mem_cons.mp m1 with e | e
      · exact e
      · rcases List.mem_cons.mp m2 with e' | e'
        · exact e'.symm
        · have := h1.1 y e'
          have := h2.1 x e
          omega
    subst e
    rw [perm_sorted_eq (List.perm_cons _ |>.mp h) h1.2 h2.2]
def sortI (ns : List Int) : List Int := ns.mergeSort (fun a b => decide (a ≤ b))
theorem sortI_perm (ns : List Int) : (sortI ns).Perm ns := List.mergeSort_perm _ _
theorem sortI_sorted (ns : List Int) : (sortI ns).Pairwise (· ≤ ·) := by
  have := List.pairwise_mergeSort (le := fun a b : Int => decide (a ≤ b)) (fun a b c h1 h2 => by simp at *; omega) (fun a b => by simp; omega) ns
  exact this.imp fun h => by simpa using h
theorem sortI_eq {ns ms : List Int} (h : ms.Perm ns) (h1 : ms.Pairwise (· ≤ ·)) : ms = sortI ns := perm_sorted_eq (h.trans (sortI_perm ns).symm) h1 (sortI_sorted ns)
@[simp] def gSorted : List D → (D → Prop) → Prop
  | [.py (.list xs)], Q => ∃ ns, allI xs = some ns ∧ Q (.py (.list ((sortI ns).map PyData.int)))
  | [.py (.tuple xs)], Q => ∃ ns, allI xs = some ns ∧ Q (.py (.list ((sortI ns).map PyData.int)))
  | _, _ => False
theorem rd_sorted {K : PySem.W.Frag} {b : Bg} : CalD b (RN b) (fun xs H Q => rSortedI K xs H Q ∨ rSortedTup K xs H Q) gSorted := by
  intro Z H vs ds Q Qd gd rx h k
  match ds, h, rx with
  | [.py (.list xs)], ⟨ns, e, h⟩, rx =>
    obtain ⟨x, rfl, r⟩ := rx.one
    obtain ⟨a, us, rfl, ha, qa⟩ := r.list
    rw [allI_of e] at qa
    have eu := qa.ints
    subst eu
    refine .inl ⟨a, ns, rfl, SqL.of ha, fun ns' p hp hs hn => ?_⟩
    have es := sortI_eq hp hs
    subst es
    exact k _ _ (.py (.list _)) (Ex.new hn) (gd.new hn) ⟨p, rfl, hn, _, upd_same, .of_ints _⟩ h
  | [.py (.tuple xs)], ⟨ns, e, h⟩, rx =>
    obtain ⟨x, rfl, r⟩ := rx.one
    obtain ⟨a, oa, us, rfl, ha, da, na, qa⟩ := r.tuple
    rw [allI_of e] at qa
    have eu := qa.ints
    subst eu
    refine .inr ⟨a, ns, rfl, SqT.th ha, fun ns' p hp hs hn => ?_⟩
    have es := sortI_eq hp hs
    subst es
    exact k _ _ (.py (.list _)) (Ex.new hn) (gd.new hn) ⟨p, rfl, hn, _, upd_same, .of_ints _⟩ h
theorem bb_sorted : bootBuiltins "sorted" = some (.builtin "sorted") := by decide +kernel
section
variable {X : Cx} {b : Bg} {W : WX} {e : Expr} {es : List Expr} {u : VA} {p pos : Pos}
theorem vn_sortedC (hg : Gl X "sorted") (hm : X.mg "sorted" = none) (ha : VXs X b W (e :: es) u) (he : starEach (e :: es) X.env = (false, eval e X.env) :: starEach es X.env := by rfl) (hpl : (backTo pos (starEach es X.env)).any (·.1) = false := by rfl) :
    VN X b W (.Call (.Name "sorted" p) (e :: es) [] pos) (vCal gSorted u) := vn_callB (CallR.or cr_sortedI cr_sortedTup) rd_sorted hg hm bb_sorted ha (by decide) (by decide) he hpl
end
end VL
set_option Elab.async false
set_option linter.all false
set_option maxRecDepth 100000
set_option maxHeartbeats 4000000
/-! VL43: len(set(t)), t a tuple of ints -/
namespace VL
open PySem PySem.Spec PyProof.Rows L2
section
variable {X : Cx}
end
@[simp] def vLenSet (t : VT) : VT := fun ρ Q E => t ρ (fun d => ∃ xs ns, d = .py (.tuple xs) ∧ allI xs = some ns ∧ ns.length < 1000 ∧ ∀ ks : List Int, ks.Nodup → (∀ j, j ∈ ks ↔ j ∈ ns) → Q (.py (.int (ks.length : Nat)))) E
end VL
set_option Elab.async false
set_option linter.all false
set_option maxRecDepth 100000
set_option maxHeartbeats 4000000
/-! VL44: the jug: a list of a list and two numbers -/
namespace VL
open PySem PySem.Spec PyProof.Rows L2
end VL
set_option Elab.async false
set_option linter.all false
set_option maxRecDepth 100000
set_option maxHeartbeats 4000000
/-! VL45: found.append(left.pop(k)), both lists owned -/
namespace VL
open PySem PySem.Spec PyProof.Rows L2
theorem Rqs.getP {Z : Addr → Prop} {H : Hp} : ∀ {vs : List V} {ds : List PyData} {k : Nat} {p : PyData}, Rqs Z H vs ds → ds[k]? = some p → ∃ v, vs[k]? = some v ∧ Rq Z H v p
  | _, _, _, _, .nil, e => by simp at e
  | _, _, 0, _, .cons r _, e => by simp at e; subst e; exact ⟨_, rfl, r⟩
  | _, _, k + 1, _, .cons _ t, e => by
    obtain ⟨v, h1, h2⟩ := Rqs.getP (k := k) t (by simpa using e)
    exact ⟨v, by simpa using h1, h2⟩
theorem Rqs.erase {Z : Addr → Prop} {H : Hp} : ∀ {vs : List V} {ds : List PyData} (k : Nat), Rqs Z H vs ds → Rqs Z H (vs.eraseIdx k) (ds.eraseIdx k)
  | _, _, _, .nil => .nil
  | _, _, 0, .cons _ t => t
  | _, _, k + 1, .cons r t => .cons r (Rqs.erase k t)
@[simp] def sPopApp (i j : Nat) (te : VT) : VS := fun ρ De => ∃ xs ys, ρ[i]? = some (.own (.py (.list xs))) ∧ ρ[j]? = some (.own (.py (.list ys))) ∧ i ≠ j ∧ xs.length < sizeLine ∧ ys.length ≤ sizeLine ∧
  te ρ (fun d => ∃ k : Nat, d = .py (.int (k : Nat)) ∧ ∃ p, ys[k]? = some p ∧ De.nx ((ρ.set j (.own (.py (.list (ys.eraseIdx k))))).set i (.own (.py (.list (xs ++ [p])))))) (De.ex ρ)
section
variable {X : Cx} {b : Bg} {W : WX} {o o2 e : Expr} {i j : Nat} {te : VT} {apos cpos pos apos2 cpos2 : Pos}
end
end VL
set_option Elab.async false
set_option linter.all false
set_option maxRecDepth 100000
set_option maxHeartbeats 4000000
/-! VL46: list(range(n)), tuple(range(n)) -/
namespace VL
open PySem PySem.Spec PyProof.Rows L2
section
variable {X : Cx} {a e : Expr} {ta : TE} {te : L2.St → Hp → (Int → Int → Hp → Prop) → Prop}
end
theorem rgV_ints (n : Int) : rgV 0 n = ((List.range n.toNat).map fun i : Nat => (0 + (i : Int))).map V.int := by unfold rgV; rw [List.map_map, Int.sub_zero]; rfl
theorem rangeP_ints (n : Nat) : rangeP 0 n = ((List.range n).map fun i : Nat => (0 + (i : Int))).map PyData.int := by rw [rangeP_eq, List.map_map]; rfl
@[simp] def vLstRg (t : VT) : VT := fun ρ Q E => t ρ (fun d => ∃ n : Int, d = .py (.int n) ∧ 0 ≤ n ∧ n ≤ 1000000 ∧ Q (.py (.list (rangeP 0 n.toNat)))) E
@[simp] def vTupRg (t : VT) : VT := fun ρ Q E => t ρ (fun d => ∃ n : Int, d = .py (.int n) ∧ 0 ≤ n ∧ n ≤ 1000000 ∧ Q (.py (.tuple (rangeP 0 n.toNat)))) E
section
variable {X : Cx} {b : Bg} {W : WX} {a : Expr} {t : VT} {p p2 q pos : Pos}
theorem vn_listRg (hc : X.calm = true) (hg : Gl X "list") (hm : X.mg "list" = none) (hg2 : Gl X "range") (hm2 : X.mg "range" = none) (ha : VX X b W a t) (na : starEach [a] X.env = (false, eval a X.env) :: starEach [] X.env := by rfl)
    (nb : starEach [.Call (.Name "range" p2) [a] [] q] X.env = (false, eval (.Call (.Name "range" p2) [a] [] q) X.env) :: starEach [] X.env := by rfl) : VN X b W (.Call (.Name "list" p) [.Call (.Name "range" p2) [a] [] q] [] pos) (vLstRg t) :=
  pe_mono (pe_listRg hc hg hm (prg_1 hg2 hm2 ha na) nb) fun σ H Q ⟨Zo, Z, ρ, Qd, Ed, v, qq, l, m⟩ => ⟨Zo, Z, ρ, _, Ed, v, qq, fun x H1 d x1 g1 r1 ⟨n, ed, n0, n1, q1⟩ => by
    subst ed
    obtain rfl := Rb.int (b := b) (Z := Z) (H := H1) r1
    refine ⟨n, rfl, RgOk.of_le (by omega) (by omega) (by omega) (by omega), fun c hc => ?_⟩
    rw [rgV_ints]
    rw [rangeP_ints] at q1
    exact l _ _ (.py (.list _)) (x1.trans (Ex.new hc)) (Bg.new g1 hc) ⟨c, rfl, ((by
      cases e : H c with
      | none => rfl
      | some o =>
        by_cases hb : b.B c
        · exact absurd hc (b.dom _ _ g1 hb)
        · rw [x1 c o e hb] at hc; cases hc) : H c = none), _, upd_same, .of_ints _⟩ q1, m⟩
end
end VL
set_option Elab.async false
set_option linter.all false
set_option maxRecDepth 100000
set_option maxHeartbeats 4000000
/-! VL47: x = left.pop(k), left owned -/
namespace VL
open PySem PySem.Spec PyProof.Rows L2
@[simp] def sPopSet (i j : Nat) (te : VT) : VS := fun ρ De => ∃ ys, ρ[j]? = some (.own (.py (.list ys))) ∧ i ≠ j ∧ i < ρ.length ∧ ys.length ≤ sizeLine ∧
  te ρ (fun d => ∃ k : Nat, d = .py (.int (k : Nat)) ∧ ∃ p, ys[k]? = some p ∧ De.nx ((ρ.set j (.own (.py (.list (ys.eraseIdx k))))).set i (.shr (.py p)))) (De.ex ρ)
section
variable {X : Cx} {b : Bg} {W : WX} {o2 e : Expr} {i j : Nat} {x : Str} {te : VT} {pos pos' apos2 cpos2 : Pos}
theorem vs_popSet (hN : X.N.Nodup) (hi : X.N[i]? = some x) (hx : Loc X.env.scope x) (ho2 : PE X o2 (tVar j)) (he : VE X b W e te)
    (hb2 : attributeBase o2 "pop" X.env (eval o2 X.env) = eval o2 X.env := by rfl)
    (hf2 : ((backTo cpos2 (starEach [e] X.env)).all (fun x => !x.1) && (backToKw cpos2 (keywordEach [] X.env)).all (fun x => x.1.isSome)
      && decide ([e].length + ([] : List Keyword).length + (if ([] : List Keyword).isEmpty then 0 else 1) < 30)) = true := by rfl)
    (hl2 : (apos2.endLine == cpos2.line) = true := by rfl) (hs2 : starEach [e] X.env = (false, eval e X.env) :: starEach [] X.env := by rfl) (hp2 : (backTo cpos2 (starEach [] X.env)).any (·.1) = false := by rfl)
    (hs : swapsWith (.Call (.Attribute o2 "pop" apos2) [e] [] cpos2) (some (.Name x pos')) pos.line X.env = pure false := by rfl)
    (hf : X.fn x = true ∨ X.env.scope.names.lookup x = some .local := by first | exact .inl rfl | exact .inr rfl | assumption) :
    VSt X b W (.Assign [.Name x pos'] (.Call (.Attribute o2 "pop" apos2) [e] [] cpos2) pos) (sPopSet i j te) :=
  ps_mono (ps_set hN hi hx (pe_bm PySem.F.plainAttrs_list PySem.F.slot_list_pop PySem.F.type_list_pop mt_popAt ho2 (pa_cons he pa_nil hs2) hb2 hf2 hl2 hs2 hp2) hs hf) fun Dn σ H ⟨H0, M, Zo, Z, ρ, De, f, ⟨ys, e2, nij, hil, zy, q⟩, l⟩ => by
    obtain ⟨c, g1, g2, g3, cys, g4, g5⟩ := f.v.own j _ e2
    refine ⟨.ref c, g1, .inl ⟨rfl, cys, SqL.of g4⟩, Zo, Z, ρ, _, _, f.v, q, fun v H1 d x1 gg r1 ⟨k, ed, p, hp, q2⟩ => ?_, l.er f⟩
    subst ed
    obtain rfl := Rb.int (b := b) (Z := Z) (H := H1) (.inl r1)
    have f1 := f.ex x1 gg
    obtain ⟨c', g1', g2', g3', cys', g4', g5'⟩ := f1.v.own j _ e2
    rw [g1] at g1'; cases g1'
    obtain ⟨y, hy, ry⟩ := g5'.getP hp
    have hk : k < ys.length := (List.getElem?_eq_some_iff.mp hp).1
    have hlen : cys'.length = ys.length := g5'.length
    have hsl := sizeLine_eq
    have si : seqIndex? (k : Int) cys'.length = some k := by
      rw [seqIndex_of (by omega) (by omega)]; simp
    refine ⟨c, cys', (k : Int), k, y, rfl, rfl, g4', by omega, by omega, si, hy, ?_⟩
    have up_ : ∀ b2 u, H1 b2 = some u → ¬ Z b2 → upd H1 c (.lst (cys'.eraseIdx k)) b2 = some u := fun b2 u ee n => by
      rw [upd_ne (fun w => n (by rw [w]; exact g2))]
      exact ee
    have f2 := f1.mut (d' := .py (.list (ys.eraseIdx k))) e2 g1 ⟨cys'.eraseIdx k, upd_same, (g5'.erase k).mono (fun _ z => .inl z) up_⟩
    have ry2 : Rq Z (upd H1 c (.lst (cys'.eraseIdx k))) y p := ry.mono (fun _ z => .inl z) up_
    exact l.nx _ _ _ _ (f2.set (by rw [List.length_set]; exact hil) (d := .py p) ry2) q2
end
end VL
set_option Elab.async false
set_option linter.all false
set_option maxRecDepth 100000
set_option maxHeartbeats 4000000
/-! VL48: xs.insert(i, x), xs owned, i not below 0 -/
namespace VL
open PySem PySem.Spec PyProof.Rows L2
@[simp] def gIns : List PyData → List D → (D → List PyData → Prop) → Prop
  | p, [.py (.int i), .py x], Q => p.length < sizeLine ∧ 0 ≤ i ∧ i < 1000000000 ∧ Q (.py .none) (p.take i.toNat ++ [x] ++ p.drop i.toNat)
  | _, _, _ => False
theorem rd_ins {b : Bg} : MutD b (fun x vs H Q => ∃ (l : Addr) (xs : List V) (i : Int) (y : V), x = .ref l ∧ vs = [.int i, y] ∧ H l = some (.lst xs) ∧ xs.length < sizeLine ∧ 0 ≤ i ∧ i < 2 ^ 63 ∧
    Q .non (upd H l (.lst (xs.take i.toNat ++ [y] ++ xs.drop i.toNat)))) gIns := by
  intro Z H a xs vs p ds Q Qd h rx rv g k
  match ds, g, rv with
  | [.py (.int i), .py x], ⟨hl, h0, h1, q⟩, .cons (v := u) ru (.cons (v := v) rv .nil) =>
    have eu : u = .int i := Rb.int (b := b) (Z := Z) (H := H) (.inl ru)
    subst eu
    exact ⟨a, xs, i, v, rfl, rfl, h, by rw [rx.length]; exact hl, h0, by omega, k _ _ _ (.py .none) (((rx.take _).append (.cons rv .nil)).append (rx.drop _)) (Rq.non : Rq Z H .non .none) q⟩
section
variable {X : Cx} {b : Bg} {W : WX} {o e e2 : Expr} {ta : VA} {i : Nat} {apos cpos pos : Pos}
theorem vs_ins (ho : PE X o (tVar i)) (ha : VAs X b W [e, e2] ta) (hbase : attributeBase o "insert" X.env (eval o X.env) = eval o X.env := by rfl)
    (hfew : ((backTo cpos (starEach [e, e2] X.env)).all (fun x => !x.1) && (backToKw cpos (keywordEach [] X.env)).all (fun x => x.1.isSome)
      && decide ([e, e2].length + ([] : List Keyword).length + (if ([] : List Keyword).isEmpty then 0 else 1) < 30)) = true := by rfl)
    (hline : (apos.endLine == cpos.line) = true := by rfl) (hs : starEach [e, e2] X.env = (false, eval e X.env) :: starEach [e2] X.env := by rfl) (hplain : (backTo cpos (starEach [e2] X.env)).any (·.1) = false := by rfl)
    (hsw : swapsWith (.Call (.Attribute o "insert" apos) [e, e2] [] cpos) none pos.line X.env = pure false := by rfl) :
    VSt X b W (.Expr (.Call (.Attribute o "insert" apos) [e, e2] [] cpos) pos) (sMut i gIns ta) :=
  vs_mut PySem.F.slot_list_insert PySem.F.type_list_insert mt_insert rd_ins ho ha hbase hfew hline hs hplain hsw
end
end VL
set_option Elab.async false
set_option linter.all false
set_option maxRecDepth 100000
set_option maxHeartbeats 4000000
/-! VL49: xs.extend(ys), xs owned, ys a list -/
namespace VL
open PySem PySem.Spec PyProof.Rows L2
@[simp] def gExt : List PyData → List D → (D → List PyData → Prop) → Prop
  | p, [.py (.list z)], Q => p.length + z.length ≤ sizeLine ∧ Q (.py .none) (p ++ z)
  | _, _, _ => False
section
variable {X : Cx} {b : Bg} {W : WX} {o e : Expr} {ta : VA} {i : Nat} {apos cpos pos : Pos}
end
end VL
set_option Elab.async false
set_option linter.all false
set_option maxRecDepth 100000
set_option maxHeartbeats 4000000
/-! VL50: *e among the items of a display or the arguments of a call -/
namespace VL
open PySem PySem.Spec PyProof.Rows L2 StX
@[simp] def vStar (t : VT) (u : VA) : VA := fun ρ Q E => t ρ (fun d => ∃ xs, (d = .py (.tuple xs) ∨ d = .py (.list xs)) ∧ u ρ (fun ds => Q (xs.map D.py ++ ds)) E) E
theorem Rps.app {b : Bg} {Z : Addr → Prop} {H : Hp} : ∀ {u : List V} {d : List D} {v : List V} {e : List D}, Rps b Z H u d → Rps b Z H v e → Rps b Z H (u ++ v) (d ++ e)
  | _, _, _, _, .nil, k => k
  | _, _, _, _, .cons r s, k => .cons r (s.app k)
section
variable {X : Cx} {b : Bg} {W : WX} {e : Expr} {es : List Expr} {t : VT} {u : VA} {p : Pos}
theorem va_star (h : VE X b W e t) (k : VAs X b W es u) (hs : starEach (.Starred e p :: es) X.env = (true, eval e X.env) :: starEach es X.env := by rfl) : VAs X b W (.Starred e p :: es) (vStar t u) :=
  pa_mono (pa_star h k hs) fun σ H Q ⟨Zo, Z, ρ, Qd, Ed, v, q, l, m⟩ => ⟨Zo, Z, ρ, _, Ed, v, q, fun x H1 d x1 g1 r1 ⟨xs, hd, q1⟩ => by
    have v1 := v.ex x1 g1
    rcases hd with rfl | rfl
    · have r1' : Rq Z H1 x (.tuple xs) := r1
      cases r1' with
      | tup ha da na qa =>
        exact ⟨_, _, rfl, .inl (SqT.th ha), Zo, Z, ρ, _, Ed, v1, q1, fun ys H2 ds x2 g2 r2 q2 => l _ H2 _ (x1.trans x2) g2 (Rps.app (v1.rqs x2 qa).to r2) q2, fun c y H2 er x2 g2 r2 q2 => m c y H2 er (x1.trans x2) g2 r2 q2⟩
    · have r1' : Rq Z H1 x (.list xs) := r1
      cases r1' with
      | lst ha na qa =>
        exact ⟨_, _, rfl, .inr (SqL.of ha), Zo, Z, ρ, _, Ed, v1, q1, fun ys H2 ds x2 g2 r2 q2 => l _ H2 _ (x1.trans x2) g2 (Rps.app (v1.rqs x2 qa).to r2) q2, fun c y H2 er x2 g2 r2 q2 => m c y H2 er (x1.trans x2) g2 r2 q2⟩, m⟩
end
end VL
set_option Elab.async false
set_option linter.all false
set_option maxRecDepth 100000
set_option maxHeartbeats 4000000
/-! VL51: sorted of a list of tuples of ints, in the order of tuples -/
namespace VL
open PySem PySem.Spec PyProof.Rows L2
def lexL : List Int → List Int → Bool
  | _, [] => false
  | [], _ :: _ => true
  | x :: xs, y :: ys => if x = y then lexL xs ys else decide (x < y)
section
variable {prog : Program} {w : World} {A : Around} {s : Shared} {E : Value → Shared → Prop}
end
section
variable {X : Cx}
end
/-! ### over values -/
def sortT (L : List (List Int)) : List (List Int) := L.mergeSort fun a b => !lexL b a
@[simp] def gSortedT : List D → (D → Prop) → Prop
  | [.py (.list xs)], Q => ∃ L : List (List Int), xs = L.map tI ∧ (∀ l ∈ L, l ≠ []) ∧ Q (.py (.list ((sortT L).map tI)))
  | _, _ => False
section
variable {X : Cx} {b : Bg} {W : WX} {e : Expr} {es : List Expr} {u : VA} {p pos : Pos}
end
end VL
set_option Elab.async false
set_option linter.all false
set_option maxRecDepth 100000
set_option maxHeartbeats 4000000
/-! VL52: defs that show values (repr within a def): called where nothing is being shown -/
namespace VL
open PySem PySem.Spec PyProof.Rows L2
structure FnL (P : Program) (w : World) (K : PySem.W.Frag) (mg : Str → Option Value) (base : Heap) (k : Nat) (f : Addr) (fd : FuncData) (ps : List Str) (sp : Sp) : Prop where
  len : ∀ vs H Q E, sp vs H Q E → vs.length = ps.length
  g : FnG P w K mg base k f fd ps sp
section
variable {P : Program} {w : World} {K : PySem.W.Frag} {mg : Str → Option Value} {base : Heap} {b : Bg} {k : Nat} {f : Addr} {fd : FuncData} {N ps : List Str} {S : SV} {st : Stmt} {x qual : Str}
end
structure CalG (P : Program) (w : World) (K : PySem.W.Frag) (mg : Str → Option Value) (base : Heap) (b : Bg) (k : Nat) (x : Str) (ps : List Str) (S : SV) where
  f : Addr
  fd : FuncData
  F : FnL P w K mg base k f fd ps (spV b S)
  g : mg x = some (.ref f)
  kp : PySem.W.keepIn K (.ref f) = true
  bd : Binds K fd ps []
section
variable {X : Cx} {b : Bg} {W : WX} {k j : Nat} {f : Addr} {fd : FuncData} {ps : List Str} {S : SV} {x : Str} {e : Expr} {es : List Expr} {u : VA} {p pos : Pos} {sp : Sp} {E : L2.St → XK} {t : TA}
end
end VL
set_option Elab.async false
set_option linter.all false
set_option maxRecDepth 100000
set_option maxHeartbeats 4000000
/-! VL53: is True, is not True of bools -/
namespace VL
open PySem PySem.Spec PyProof.Rows L2
@[simp] def gIsB (neg : Bool) : D → D → (D → Prop) → Prop
  | .py (.bool a), .py (.bool b), Q => Q (.py (.bool (neg ^^ decide (a = b))))
  | _, _, _ => False
section
variable {X : Cx} {b : Bg} {W : WX} {e1 e2 : Expr} {t1 t2 : VT} {pos : Pos}
end
end VL
set_option Elab.async false
set_option linter.all false
set_option maxRecDepth 100000
set_option maxHeartbeats 4000000
/-! VL54: list(text) -/
namespace VL
open PySem PySem.Spec PyProof.Rows L2
section
variable {X : Cx}
end
@[simp] def gListA : List D → (D → Prop) → Prop
  | [.py (.list xs)], Q => Q (.py (.list xs))
  | [.py (.tuple xs)], Q => Q (.py (.list xs))
  | [.py (.str z)], Q => z.length ≤ sizeLine ∧ Q (.py (.list (signsD z)))
  | _, _ => False
section
variable {X : Cx} {b : Bg} {W : WX} {e : Expr} {es : List Expr} {u : VA} {p pos : Pos}
end
end VL
set_option Elab.async false
set_option linter.all false
set_option maxRecDepth 100000
set_option maxHeartbeats 4000000
/-! VL55: () * k -/
namespace VL
open PySem PySem.Spec PyProof.Rows L2
open AutoSeq1 (wpAny_loadPart')
section
variable {X : Cx}
end
section
variable {X : Cx} {b : Bg} {W : WX} {e1 e2 : Expr} {t1 t2 : VT} {pos : Pos}
/-- .. of a tuple that may be empty -/
@[simp] def gMulT : D → D → (D → Prop) → Prop
  | .py (.tuple xs), .py (.int k), Q => (0 ≤ k ∧ 2 ≤ k ∧ k ≤ 1000 ∧ xs.length ≤ 1000) ∧ Q (.py (.tuple (List.replicate k.toNat xs).flatten))
  | _, _, _ => False
end
end VL
set_option Elab.async false
set_option linter.all false
set_option maxRecDepth 100000
set_option maxHeartbeats 4000000
/-! VL56: a sign in a text -/
namespace VL
open PySem PySem.Spec PyProof.Rows L2 HT
open Builtin.Str in
theorem occ_full (z : Str) (c k lim : Nat) (st : Array Nat × Nat) (h2 : ¬ st.1.size < lim) : StrLaws.occBody z ⟨#[c]⟩ z.length lim k st = pure (ForInStep.yield (st.1, st.2)) := by
  unfold StrLaws.occBody
  rw [if_neg (fun q => h2 q.1.1.1)]
theorem occ_one (z : Str) (c : Nat) : ∀ (n k free : Nat) (acc : Array Nat), free ≤ k → k + n = z.length + 1 →
    (0 < (forIn (List.range' k n) (acc, free) (StrLaws.occBody z ⟨#[c]⟩ z.length 1)).run.fst.size ↔ (0 < acc.size ∨ c ∈ (sl z).drop k))
  | 0, k, free, acc, h1, h3 => by
    have : (sl z).drop k = [] := List.drop_eq_nil_of_le (by rw [slen]; omega)
    rw [this]; simp
  | n + 1, k, free, acc, h1, h3 => by
    rw [List.range'_succ, List.forIn_cons]
    by_cases ha : acc.size < 1
    · rw [occ_step z c k _ (acc, free) h1 (by show acc.size < _; omega)]
      by_cases hk : k < z.length
      · have hk' : k < (sl z).length := by rw [slen]; exact hk
        rw [List.drop_eq_getElem_cons hk', List.getElem?_eq_getElem hk']
        by_cases hc : (sl z)[k] = c
        · rw [if_pos (by rw [hc])]
          have := occ_one z c n (k + 1) (k + 1) (acc.push k) (by omega) (by omega)
          simp only [pure_bind]
          rw [this, Array.size_push]
          simp [hc]
        · rw [if_neg (by simpa using hc)]
          have := occ_one z c n (k + 1) free acc (by omega) (by omega)
          simp only [pure_bind]
          rw [this]
          have hc' : ¬ c = (sl z)[k] := fun e => hc e.symm
          have hm : (c ∈ (sl z)[k] :: (sl z).drop (k + 1)) ↔ c ∈ (sl z).drop (k + 1) := by
            rw [List.mem_cons]; exact ⟨fun h => h.resolve_left hc', .inr⟩
          rw [hm]
      · have e : (sl z).drop k = [] := List.drop_eq_nil_of_le (by rw [slen]; omega)
        rw [if_neg (by rw [List.getElem?_eq_none (by rw [slen]; omega)]; simp), e]
        have := occ_one z c n (k + 1) free acc (by omega) (by omega)
        have e2 : (sl z).drop (k + 1) = [] := List.drop_eq_nil_of_le (by rw [slen]; omega)
        rw [e2] at this
        simp only [pure_bind]
        exact this
    · rw [occ_full z c k 1 (acc, free) ha]
      have := occ_one z c n (k + 1) free acc (by omega) (by omega)
      simp only [pure_bind]
      rw [this]
      have : 0 < acc.size := by omega
      simp [this]
theorem contains_sign (z : Str) (c : Nat) : Txt.contains z (mkS [c]) = decide (c ∈ sl z) := by
  unfold Txt.contains
  have h := occ_one z c (z.length + 1 - 0) 0 0 #[] (by omega) (by omega)
  rw [StrLaws.occ_eq]
  have h' : 0 < (forIn (List.range' 0 (z.length + 1 - 0)) (#[], 0) (StrLaws.occBody z (mkS [c]) z.length 1)).run.fst.size ↔ c ∈ sl z := by
    refine h.trans ?_
    simp
  rw [Bool.eq_iff_iff, decide_eq_true_eq, ← h']
  generalize (forIn (List.range' 0 (z.length + 1 - 0)) (#[], 0) (StrLaws.occBody z (mkS [c]) z.length 1)).run.fst = A
  obtain ⟨A⟩ := A
  cases A <;> simp
@[simp] theorem contains_mkS (l : List Nat) (c : Nat) : Txt.contains (mkS l) (mkS [c]) = decide (c ∈ l) := by rw [contains_sign, sl_mkS]
end VL
set_option Elab.async false
set_option linter.all false
set_option maxRecDepth 100000
set_option maxHeartbeats 4000000
/-! VL57: x or y, where x is a text -/
namespace VL
open PySem PySem.Spec PyProof.Rows L2 HT
variable {X : Cx} {b : Bg} {W : WX} {e1 e2 : Expr} {es : List Expr} {pos : Pos} {t1 t2 : VT}
@[simp] def vOrS (ta tb : VT) : VT := fun ρ Q E => ta ρ (fun x => ∃ z : Str, x = .py (.str z) ∧ z.length ≤ 16777214 ∧ if z.length = 0 then tb ρ Q E else Q (.py (.str z))) E
end VL
set_option Elab.async false
set_option linter.all false
set_option maxRecDepth 100000
set_option maxHeartbeats 4000000
/-! VL58: a background with tables of code objects (for defs that make lambdas) -/
namespace VL
open PySem PySem.Spec PyProof.Rows L2
section
variable {b : Bg} {T : List (Addr × Str)} {Z : Addr → Prop} {H H' : Hp}
end
end VL
set_option Elab.async false
set_option linter.all false
set_option maxRecDepth 100000
set_option maxHeartbeats 4000000
/-! VL59: a lambda without parameters is made; it is called where it was handed to -/
namespace VL
open PySem PySem.Spec PyProof.Rows L2
open LamX (CodeO Tabs TabS TabB LamS lamEnv lamCx)
section
variable {X : Cx} {pins : List (Addr × Obj)} {σ : L2.St} {H : Hp} {s : Shared}
end
section
variable {X : Cx} {pins : List (Addr × Obj)} {σ : L2.St} {H : Hp} {s : Shared}
end
end VL
set_option Elab.async false
set_option linter.all false
set_option maxRecDepth 100000
set_option maxHeartbeats 4000000
/-! VL60: told(lambda: ..): the def tries what it got and tells the result or the error -/
namespace VL
open PySem PySem.Spec PyProof.Rows L2
open LamX (CodeO Tabs TabS TabB LamS lamEnv lamCx)
/-- what is told of an error -/
def toldE (names : List Str) (th : Addr → Option Addr → Er → VS) (tr : VS) (er : Er) (Q : D → Prop) : Prop := er.n ∈ names ∧ errSub er.n "LineError" = true ∧
  ∀ f a d, th a d er [.shr (.raw f), .own (.py (.list [])), .shr (.err a d er.n er.fs)] (afterS 2 { nx := fun ρ => tr ρ (fin Q noE), rt := Q, bk := fun _ => False, ct := fun _ => False, ex := fun _ _ => False })
@[simp] def vTold (names : List Str) (th : Addr → Option Addr → Er → VS) (tr : VS) (te : VT) : VT := fun ρ Q E => te ρ (fun d => ∃ p, d = .py p ∧ Q (.py (.tuple [.str "result", p]))) (fun er => toldE names th tr er Q)
section
variable {X : Cx} {b : Bg} {T : List (Addr × Str)}
end
end VL
set_option Elab.async false
set_option linter.all false
set_option maxRecDepth 100000
set_option maxHeartbeats 4000000
/-! VL61: the law's end with tables of code objects -/
namespace VL
open PySem PySem.Spec PyProof.Rows L2
end VL
set_option Elab.async false
set_option linter.all false
set_option maxRecDepth 100000
set_option maxHeartbeats 4000000
/-! VL62: defs that make lambdas; the def that is given them, as a promise -/
namespace VL
open PySem PySem.Spec PyProof.Rows L2
open LamX (LamS lamEnv lamCx)
section
variable {P : Program} {w : World} {K : PySem.W.Frag} {mg : Str → Option Value} {base : Heap} {b : Bg} {T : List (Addr × Str)}
end
/-! ### the code object of a def -/
section
variable {P : Program} {w : World} {K : PySem.W.Frag} {mg : Str → Option Value} {base : Heap} {b : Bg} {k : Nat} {x qual : Str} {st : Stmt} {f c : Addr} {fd : FuncData} {N ps : List Str} {S : SV} {sp : Sp}
end
end VL
set_option Elab.async false
set_option linter.all false
set_option maxRecDepth 100000
set_option maxHeartbeats 4000000
/-! VL63: the law's head where the law makes lambdas; the jug as a background with tables -/
namespace VL
open PySem PySem.Spec PyProof.Rows L2
section
variable {P : Program} {w : World} {K : PySem.W.Frag} {mg : Str → Option Value} {base : Heap} {k k0 : Nat} {st : Stmt} {f fo c : Addr} {fd fdo : FuncData} {N : List Str}
end
/-! ### what is never reached -/
@[simp] def vNo : VT := fun _ _ _ => False
@[simp] def sNo : VS := fun _ _ => False
end VL
set_option Elab.async false
set_option linter.all false
set_option maxRecDepth 100000
set_option maxHeartbeats 4000000
/-! VL64: sorted(set(t)), t a tuple of ints -/
namespace VL
open PySem PySem.Spec PyProof.Rows L2
section
variable {X : Cx}
end
@[simp] def vSortSet (t : VT) : VT := fun ρ Q E => t ρ (fun d => ∃ xs ns, d = .py (.tuple xs) ∧ allI xs = some ns ∧ ns.length < 63 ∧ ∀ ks : List Int, ks.Pairwise (· < ·) → (∀ j, j ∈ ks ↔ j ∈ ns) → Q (.py (.list (ks.map PyData.int)))) E
end VL
set_option Elab.async false
set_option linter.all false
set_option maxRecDepth 100000
set_option maxHeartbeats 4000000
/-! VL65: t * k, k at least 1, of a tuple that is not empty -/
namespace VL
open PySem PySem.Spec PyProof.Rows L2
open AutoSeq1 (wpAny_loadPart')
section
variable {X : Cx}
end
section
variable {X : Cx} {b : Bg} {W : WX} {e1 e2 : Expr} {t1 t2 : VT} {pos : Pos}
@[simp] def gMulP : D → D → (D → Prop) → Prop
  | .py (.tuple xs), .py (.int k), Q => (xs ≠ [] ∧ 1 ≤ k ∧ k ≤ 1000 ∧ xs.length ≤ 1000) ∧ Q (.py (.tuple (List.replicate k.toNat xs).flatten))
  | _, _, _ => False
end
end VL
set_option Elab.async false
set_option linter.all false
set_option maxRecDepth 100000
set_option maxHeartbeats 4000000
/-! VL66: a caught error handed to a def that asks it -/
namespace VL
open PySem PySem.Spec PyProof.Rows L2
open L2H (PinOk RoomH cxH inv_startH)
abbrev SE := Er → (D → Prop) → Prop
def svE (a : Addr) (d : Option Addr) (er : Er) (S : SE) : SV := fun ds Q _ => ds = [.err a d er.n er.fs] ∧ S er Q
/-- what such a def promises: within a suite, of the error that is handled -/
structure FnE (P : Program) (w : World) (K : PySem.W.Frag) (mg : Str → Option Value) (base : Heap) (b : Bg) (k : Nat) (f : Addr) (fd : FuncData) (ps : List Str) (S : SE) : Prop where
  len : ps.length = 1
  run : ∀ (A : Around) (outer : List Env) (s : Shared) (H : Hp) (args : Args) (Q : VK) (p : Addr × Obj) (d : Option Addr) (er : Er), RoomH k A → A.handled = some (.ref p.1) → (∃ vs : Array Value, p.2.data = .fields vs) → Zc (.ref (b.cls er.n)) d p.2 → PinOk outer H s p →
    Env0 P w K mg base A outer s H → BindsTo s fd args (ps.zip [.ref p.1]) → spV b (svE p.1 d er S) [.ref p.1] H Q (fun _ _ _ => False) → codeAny (model P w) A (.call (.ref f) args) (CR (L2.CX P w) outer P w H s Q (fun _ _ _ => False)) s
section
variable {P : Program} {w : World} {K : PySem.W.Frag} {mg : Str → Option Value} {base : Heap} {b : Bg} {k : Nat} {x qual : Str} {st : Stmt} {f : Addr} {fd : FuncData} {N ps : List Str} {S : SE}
end
/-- a def that asks an error: all that its call wants -/
structure CalE (P : Program) (w : World) (K : PySem.W.Frag) (mg : Str → Option Value) (base : Heap) (b : Bg) (k : Nat) (x : Str) (ps : List Str) (S : SE) where
  f : Addr
  fd : FuncData
  F : FnE P w K mg base b k f fd ps S
  g : mg x = some (.ref f)
  kp : PySem.W.keepIn K (.ref f) = true
  bd : Binds K fd ps []
@[simp] def vCallE (a : Addr) (d : Option Addr) (er : Er) (i : Nat) (S : SE) : VT := fun ρ Q _ => ρ[i]? = some (.shr (.err a d er.n er.fs)) ∧ S er Q
section
variable {X : Cx} {b : Bg} {W : WX} {a : Addr} {oe : Obj} {er : Er} {d : Option Addr} {pn : List (Addr × Obj)} {i k : Nat} {x : Str} {ps : List Str} {S : SE} {e : Expr} {p pos : Pos}
end
end VL
set_option Elab.async false
set_option linter.all false
set_option maxRecDepth 100000
set_option maxHeartbeats 4000000
/-! VL67: the crank: a list of two numbers and a list -/
namespace VL
open PySem PySem.Spec PyProof.Rows L2
end VL
set_option Elab.async false
set_option linter.all false
set_option maxRecDepth 100000
set_option maxHeartbeats 4000000
/-! VL68: parameters ahead of a star; keyword-only parameters. -/
namespace VL
open PySem PySem.Spec PyProof.Rows L2
/-! ### def f(a, .., *v) -/
@[simp] def svStarN (n : Nat) (S : SV) : SV := fun ds Q E => n ≤ ds.length ∧ ∃ ps, pys (ds.drop n) = some ps ∧ ps.length ≤ sizeLine ∧ S (ds.take n ++ [.py (.tuple ps)]) Q E
theorem Rps.append {b : Bg} {Z : Addr → Prop} {H : Hp} : ∀ {v w : List V} {d e : List D}, Rps b Z H v d → Rps b Z H w e → Rps b Z H (v ++ w) (d ++ e)
  | _, _, _, _, .nil, s => s
  | _, _, _, _, .cons r t, s => .cons r (Rps.append t s)
section
variable {CX : CXT} {P : Program} {w : World} {K : PySem.W.Frag} {mg : Str → Option Value} {base : Heap} {k : Nat} {f : Addr} {name qual : Str} {params : Arguments} {body : List Stmt} {scope : Scope} {dV kV doc pm cdv ct oc : Value} {an od : Option Addr}
  {osl : Array (Option Value)} {N ps : List Str} {sp : Sp}
end
section
variable {P : Program} {w : World} {K : PySem.W.Frag} {mg : Str → Option Value} {base : Heap} {b : Bg} {k : Nat} {x qual pv : Str} {st : Stmt} {f : Addr} {fd : FuncData} {N ps : List Str} {S : SV}
end
/-! ### def f(a, .., *, k=c) -/
/-- a def's one keyword-only default -/
structure DefW (K : PySem.W.Frag) (x : Str) (st : Stmt) (kn : Str) (dv : V) : Prop where
  ex : ∃ (f D : Addr) (oc doc pm cdv ct u : Value) (od an : Option Addr) (osl : Array (Option Value)), PySem.W.nsIn K mainGlobals x = some (some (.ref f)) ∧ K.lookup f = some ⟨oc, od, .func (PySem.W.fnOf x x (defArgs st) (defBody st) (defScope st) .none (.ref D) doc pm an cdv ct), osl⟩ ∧ PySem.W.codeIn K cdv x = true ∧ PySem.W.keepIn K (.ref f) = true ∧
    PySem.W.nsIn K D kn = some (some u) ∧ RelV dv u
theorem defW {K : PySem.W.Frag} {x kn : Str} {dv : V} {st : Stmt} {f D : Addr} {oc doc pm cdv ct u : Value} {od an : Option Addr} {osl : Array (Option Value)} (a : PySem.W.nsIn K mainGlobals x = some (some (.ref f)))
    (l : K.lookup f = some ⟨oc, od, .func (PySem.W.fnOf x x (defArgs st) (defBody st) (defScope st) .none (.ref D) doc pm an cdv ct), osl⟩) (c : PySem.W.codeIn K cdv x = true) (k : PySem.W.keepIn K (.ref f) = true) (d : PySem.W.nsIn K D kn = some (some u)) (r : RelV dv u) : DefW K x st kn dv := ⟨f, D, oc, doc, pm, cdv, ct, u, od, an, osl, a, l, c, k, d, r⟩
theorem DefW.use {K : PySem.W.Frag} {x kn : Str} {dv : V} {st : Stmt} {ps : List Str} {h : Heap} {mg : Str → Option Value} (d : DefW K x st kn dv) (X : K.In h) (G : h.Ns mainGlobals mg)
    (h0 : ∀ (D : Addr) (doc pm : Value) (an : Option Addr) (cdv ct : Value) (us : List Value) (v : Value), us.length = ps.length → KwChain D [(kn, v)] (bindArgs (PySem.W.fnOf x x (defArgs st) (defBody st) (defScope st) .none (.ref D) doc pm an cdv ct) ⟨us, []⟩) ((ps ++ [kn]).zip (us ++ [v])))
    (h1 : ∀ (D : Addr) (doc pm : Value) (an : Option Addr) (cdv ct : Value) (us : List Value) (v : Value), us.length = ps.length → bindArgs (PySem.W.fnOf x x (defArgs st) (defBody st) (defScope st) .none (.ref D) doc pm an cdv ct) ⟨us, [(kn, v)]⟩ = pure ((ps ++ [kn]).zip (us ++ [v]))) :
    ∃ (f : Addr) (fd : FuncData), Fun K x x st f fd ∧ mg x = some (.ref f) ∧ PySem.W.keepIn K (.ref f) = true ∧ (∃ ds, Vals [dv] ds ∧ Binds K fd (ps ++ [kn]) ds) ∧ KBn K fd (ps ++ [kn]) ps.length [kn] (fun us ws => us ++ ws) (fun vs zs => vs ++ zs) := by
  obtain ⟨f, D, oc, doc, pm, cdv, ct, u, od, an, osl, a, l, c, k, e, r⟩ := d.ex
  refine ⟨f, _, fun_mk l c k, PySem.W.mg_of X G a, k, ?_, ⟨fun s us ws KX h2 h3 => ?_, fun r1 r2 => r1.append r2⟩⟩
  · have F : FunD K x x (defArgs st) (defBody st) (defScope st) [] [(kn, dv)] f _ := ⟨⟨oc, od, _, _, doc, pm, an, cdv, ct, osl, rfl, l, c, .inl ⟨rfl, rfl⟩, .inr ⟨D, rfl, fun q hq => by rw [List.mem_singleton.mp hq]; exact ⟨u, e, r⟩⟩⟩, k⟩
    exact F.binds0 ps.length (by simp) (by simp) fun D' doc pm an cdv ct us ks h2 h3 => by
      match ks, h3 with
      | [v], _ => exact h0 D' doc pm an cdv ct us v h2
  · match ws, h3 with
    | [v], _ => exact .of_eq (h1 D doc pm an cdv ct us v h2)
structure CalW (P : Program) (w : World) (K : PySem.W.Frag) (mg : Str → Option Value) (base : Heap) (b : Bg) (k : Nat) (x : Str) (ps : List Str) (kn : Str) (dv : PyData) (S : SV) where
  f : Addr
  fd : FuncData
  F : FnOk P w K mg base (L2.CX P w) k f fd (ps ++ [kn]) (spV b S)
  g : mg x = some (.ref f)
  kp : PySem.W.keepIn K (.ref f) = true
  b0 : ∃ v ds, Vals [v] ds ∧ Binds K fd (ps ++ [kn]) ds ∧ ∀ Z H, Rq Z H v dv
  b1 : KBn K fd (ps ++ [kn]) ps.length [kn] (fun us ws => us ++ ws) (fun vs zs => vs ++ zs)
@[simp] def svW (dv : PyData) (S : SV) : SV := fun ds Q E => S (ds ++ [.py dv]) Q E
@[simp] def vCallW (S : SV) (u : VA) (t : VT) : VT := fun ρ Q E => u ρ (fun ds => t ρ (fun d => S (ds ++ [d]) Q E) E) E
section
variable {X : Cx} {b : Bg} {W : WX} {k j : Nat} {x kn : Str} {ps : List Str} {dv : PyData} {S : SV} {e e2 : Expr} {es : List Expr} {u : VA} {t : VT} {p pos kpos : Pos}
theorem ve_calW (c : CalW X.prog X.w X.K X.mg X.base b k x ps kn dv S) (hr : Room j X.A) (tk : Takes X W) (hg : Gl X x) (ha : VAs X b W (e :: es) u) (hk : k ≤ j := by decide) (hdb : (x == ("__debug__" : Str)) = false := by decide)
    (he : starEach (e :: es) X.env = (false, eval e X.env) :: starEach es X.env := by rfl) (hpl : (backTo pos (starEach es X.env)).any (·.1) = false := by rfl) : VE X b W (.Call (.Name x p) (e :: es) [] pos) (vCall (svW dv S) u) := by
  obtain ⟨v, ds, hv, hb, hq⟩ := c.b0
  refine pe_mono (pe_callSD c.F (hr.mono hk) hg c.g c.kp hb hv (passAt tk) ha hdb he hpl) ?_
  exact fun σ H Q ⟨Zo, Z, ρ, Qd, Ed, v', q, l, m⟩ => ⟨Zo, Z, ρ, _, Ed, v', q, fun vs H1 ds x1 g1 r1 q1 => by
    have v1 := v'.ex x1 g1
    exact ⟨Z, ds ++ [D.py dv], Qd, Ed, v1.gd, r1.append (.cons (d := .py dv) (hq Z H1) .nil), q1, fun y H2 d x2 g2 r2 q2 => l y H2 d (x1.trans x2) g2 r2 q2, fun c z H2 er x2 g2 r2 q2 => m c z H2 er (x1.trans x2) g2 r2 q2⟩, m⟩
theorem run_fnNS {n : Nat} {f : Addr} {fd : FuncData} {ps ks : List Str} {sp : Sp} {E : L2.St → XK} {g : List Value → List Value → List Value} {gV : List V → List V → List V} {pins : List (Addr × Obj)} {σ : L2.St} {H : Hp} {s : Shared} {Q : VK} {us ws : List Value} {vs zs : List V}
    (F : FnOk X.prog X.w X.K X.mg X.base (L2.CX X.prog X.w) k f fd ps sp) (hr : Room k X.A) (hb : KBn X.K fd ps n ks g gV) (hx : PassesAt (L2.CX X.prog X.w) X σ (E σ))
    (I : Inv X pins σ H s) (r : Vals vs us) (rz : Vals zs ws) (l1 : vs.length = n) (l2 : zs.length = ks.length) (h : sp (gV vs zs) H Q (E σ)) : wpAny (model X.prog X.w) X.A (call (.ref f) us (ks.zip ws)) (EP X pins σ Q) X.xe s := by
  have r2 := hb.rel r rz
  refine wpAny_call (codeAny_mono (F.run X.A X.stack s H ⟨us, ks.zip ws⟩ (g us ws) (gV vs zs) Q (E σ) hr I.env0 (hb.to s us ws I.kIn (r.length.symm.trans l1) (rz.length.symm.trans l2)) r2 h) fun r s' hq => ?_)
  cases r with
  | error e => exact hx pins H s e s' I hq
  | ok fl =>
    cases fl with
    | ret u => exact I.after hq
    | next => exact False.elim hq
    | brk => exact False.elim hq
    | cont => exact False.elim hq
def tCallNS (n m : Nat) (sp : Sp) (gV : List V → List V → List V) (E : L2.St → XK) (t tk : TA) : TE := fun σ H Q => t σ H fun vs H1 => tk σ H1 fun zs H2 => vs.length = n ∧ zs.length = m ∧ sp (gV vs zs) H2 Q (E σ)
theorem pe_callNS {n : Nat} {f : Addr} {fd : FuncData} {ps ks : List Str} {sp : Sp} {E : L2.St → XK} {g : List Value → List Value → List Value} {gV : List V → List V → List V} {kws : List Keyword} {t tk : TA}
    (F : FnOk X.prog X.w X.K X.mg X.base (L2.CX X.prog X.w) k f fd ps sp) (hr : Room k X.A) (hg : Gl X x) (hm : X.mg x = some (.ref f)) (hk : PySem.W.keepIn X.K (.ref f) = true) (hb : KBn X.K fd ps n ks g gV) (hx : ∀ σ, PassesAt (L2.CX X.prog X.w) X σ (E σ))
    (ha : PA X (e :: es) t) (hkw : PK X kws tk) (hall : (backToKw pos (keywordEach kws X.env)).all (·.1.isSome) = true := by rfl) (hks : (backToKw pos (keywordEach kws X.env)).filterMap (·.1) = ks := by rfl)
    (hdb : (x == ("__debug__" : Str)) = false := by decide) (he : starEach (e :: es) X.env = (false, eval e X.env) :: starEach es X.env := by rfl)
    (hpl : ((backTo pos (starEach (e :: es) X.env)).any (·.1) || (backToKw pos (keywordEach kws X.env)).any (·.1.isNone)) = false := by rfl) :
    PE X (.Call (.Name x p) (e :: es) kws pos) (tCallNS n ks.length sp gV E t tk) := by
  refine ⟨fun pins s σ H Q I h => ?_⟩
  refine wpAny_Call_Name_kw (ld_glob I hg hm ?_ hdb)
  refine PySem.W.callWith_KW (h₀ := X.base) I.ok.mod.kin hk hall (thn (ha.run pos pins s σ H _ I h) fun us s1 ⟨vs, H1, I1, r, q⟩ => ?_) hpl he
  refine thn (hkw.run pos pins s1 σ H1 _ I1 q) fun ws s2 ⟨zs, H2, I2, rz, l1, l2, q2⟩ => ⟨I2.kIn, ?_⟩
  rw [hks]
  exact run_fnNS F hr hb (hx σ) I2 r rz l1 l2 q2
theorem ve_calWk (c : CalW X.prog X.w X.K X.mg X.base b k x ps kn dv S) (hr : Room j X.A) (tk : Takes X W) (hg : Gl X x) (ha : VAs X b W (e :: es) u) (h2 : VE X b W e2 t) (hk : k ≤ j := by decide)
    (hall : (backToKw pos (keywordEach [⟨some kn, e2, kpos⟩] X.env)).all (·.1.isSome) = true := by rfl) (hks : (backToKw pos (keywordEach [⟨some kn, e2, kpos⟩] X.env)).filterMap (·.1) = [kn] := by rfl) (hdb : (x == ("__debug__" : Str)) = false := by decide)
    (he : starEach (e :: es) X.env = (false, eval e X.env) :: starEach es X.env := by rfl) (hpl : ((backTo pos (starEach (e :: es) X.env)).any (·.1) || (backToKw pos (keywordEach [⟨some kn, e2, kpos⟩] X.env)).any (·.1.isNone)) = false := by rfl) :
    VE X b W (.Call (.Name x p) (e :: es) [⟨some kn, e2, kpos⟩] pos) (vCallW S u t) := by
  refine pe_mono (pe_callNS (n := ps.length) c.F (hr.mono hk) hg c.g c.kp c.b1 (passAt tk) ha (pk_cons h2 pk_nil) hall hks hdb he hpl) ?_
  exact fun σ H Q ⟨Zo, Z, ρ, Qd, Ed, v', q, l, m⟩ => ⟨Zo, Z, ρ, _, Ed, v', q, fun vs H1 ds x1 g1 r1 q1 => by
    have v1 := v'.ex x1 g1
    exact ⟨Zo, Z, ρ, _, Ed, v1, q1, fun y H2 d x2 g2 r2 q2 => by
      have v2 := v1.ex x2 g2
      have h : spV b S (vs ++ [y]) H2 Q (WE W σ) := ⟨Z, ds ++ [d], Qd, Ed, v2.gd, (v1.rps x2 r1).append (.cons r2 .nil), q2, fun y H3 d x3 g3 r3 q3 => l y H3 d ((x1.trans x2).trans x3) g3 r3 q3, fun c z H3 er x3 g3 r3 q3 => m c z H3 er ((x1.trans x2).trans x3) g3 r3 q3⟩
      have hl := c.F.len _ _ _ _ h
      rw [List.length_append, List.length_append] at hl
      exact ⟨Nat.add_right_cancel hl, rfl, h⟩, fun c z H2 er x2 g2 r2 q2 => m c z H2 er (x1.trans x2) g2 r2 q2⟩, m⟩
end
end VL
set_option Elab.async false
set_option linter.all false
set_option maxRecDepth 100000
set_option maxHeartbeats 4000000
/-! VL69: text.index(text) -/
namespace VL
open PySem PySem.Spec PyProof.Rows L2
@[simp] def gTIndex : D → List D → (D → Prop) → Prop
  | .py (.str a), [.py (.str b)], Q => ∃ i rest, Builtin.Str.occurrences a b 0 a.length 1 = i :: rest ∧ Q (.py (.int (i : Nat)))
  | _, _, _ => False
/-! ### x is True where x may be None -/
@[simp] def gIsBn : D → D → (D → Prop) → Prop
  | .py (.bool a), .py (.bool b), Q => Q (.py (.bool (decide (a = b))))
  | .py .none, .py (.bool _), Q => Q (.py (.bool false))
  | _, _, _ => False
section
variable {X : Cx} {b : Bg} {W : WX} {e1 e2 : Expr} {t1 t2 : VT} {pos : Pos}
end
end VL
set_option Elab.async false
set_option linter.all false
set_option maxRecDepth 100000
set_option maxHeartbeats 4000000
/-! VL70: max, min of a tuple of ints -/
namespace VL
open PySem PySem.Spec PyProof.Rows L2
theorem depth_ints (ns : List Int) : PyData.depthAll (ns.map PyData.int) = 0 := by
  induction ns with
  | nil => rfl
  | cons n ns ih => simp [PyData.depthAll, PyData.depth, ih]
section
variable {X : Cx}
end
@[simp] def gMaxT : List D → (D → Prop) → Prop
  | [.py (.tuple xs)], Q => ∃ ns, allI xs = some ns ∧ ns ≠ [] ∧ Q (.py (.int (maxL ns)))
  | _, _ => False
@[simp] def gMinT : List D → (D → Prop) → Prop
  | [.py (.tuple xs)], Q => ∃ ns, allI xs = some ns ∧ ns ≠ [] ∧ Q (.py (.int (minL ns)))
  | _, _ => False
section
variable {X : Cx} {b : Bg} {W : WX} {e : Expr} {es : List Expr} {u : VA} {p pos : Pos} {t : VT}
end
end VL
set_option Elab.async false
set_option linter.all false
set_option maxRecDepth 100000
set_option maxHeartbeats 4000000
/-! VL71: a list comprehension whose items may raise -/
namespace VL
open PySem PySem.Spec PyProof.Rows L2
end VL
namespace VL
open PySem PySem.Spec PyProof.Rows L2
section
variable {M : Model} {A : Around} {E : Value → Shared → Prop} {s : Shared} {env : Env}
end
end VL
namespace VL
open PySem PySem.Spec PyProof.Rows L2
section
variable {X : Cx}
end
end VL
namespace VL
open PySem PySem.Spec PyProof.Rows L2
section
variable {X : Cx}
end
/-! ### over values -/
@[simp] def lcGoE (g : VTg) (tt : VB) (te : VT) (Q : D → Prop) (E : Er → Prop) : List D → List PyData → VEnv → Prop
  | [], acc, _ => Q (.py (.list acc))
  | d :: ds, acc, ρ => g d ρ fun ρ1 => tt ρ1 (fun k => if k = true then te ρ1 (fun y => ∃ p, y = .py p ∧ acc.length < sizeLine ∧ lcGoE g tt te Q E ds (acc ++ [p]) ρ) E else lcGoE g tt te Q E ds acc ρ) noE
@[simp] def vLcE (vs : List Nat) (ti : VIt) (g : VTg) (tt : VB) (te : VT) : VT := fun ρ Q E => noOwn ρ vs ∧ ti ρ (fun ds => lcGoE g tt te Q E ds [] (wipeE ρ vs)) E
section
variable {b : Bg} {W : WX} {ti : VIt} {js : List Nat} {g : VTg} {tt : VB} {te : VT} {vs : List Nat}
end
section
variable {X : Cx} {b : Bg} {W : WX} {tg iter elt c : Expr} {ifs : List Expr} {scope : Scope} {own : List (Str × Nat)} {pos spos py p : Pos} {ti : VIt} {js : List Nat} {g : VTg} {tt : VB} {te : VT} {i : Nat} {y : Str}
end
end VL
set_option Elab.async false
set_option linter.all false
set_option maxRecDepth 100000
set_option maxHeartbeats 4000000
/-! VL72: own objects: fields, __init__, methods -/
namespace VL
open PySem PySem.Spec PyProof.Rows L2
/-! ### fields -/
@[simp] def gFld (n f : Str) : D → (D → Prop) → Prop
  | .obj _ m fs, Q => m = n ∧ ∃ p, fs.lookup f = some p ∧ Q (.py p)
  | _, _ => False
/-- the field f is p from now on -/
@[simp] def putFD (f : Str) (p : PyData) : List (Str × PyData) → List (Str × PyData)
  | [] => [(f, p)]
  | (g, x) :: r => if g = f then (g, p) :: r else (g, x) :: putFD f p r
theorem Rqf.none {Z : Addr → Prop} {H : Hp} {f : Str} : ∀ {xs : List (Str × V)} {fs : List (Str × PyData)}, Rqf Z H xs fs → fs.lookup f = none → xs.lookup f = none
  | _, _, .nil, _ => rfl
  | _, _, .cons (k := k) r t, e => by
    rw [List.lookup_cons] at e ⊢
    cases h : f == k with
    | true => rw [h] at e; cases e
    | false => rw [h] at e; exact Rqf.none t e
section
variable {X : Cx} {b : Bg} {W : WX} {e o : Expr} {n f : Str} {t : VT} {pos pos' : Pos} {i : Nat}
theorem ve_fld (c : Cls X.K (b.cls n)) (na : NoAttr X.K (b.cls n) f) (h : VX X b W e t) (hb : attributeBase e f X.env (eval e X.env) = eval e X.env := by rfl) : VE X b W (.Attribute e f pos) (vUn (gFld n f) t) :=
  pe_mono (pe_fld h hb) fun σ H Q ⟨Zo, Z, ρ, Qd, Ed, v, q, l, m⟩ => ⟨Zo, Z, ρ, _, Ed, v, q, fun x H1 d x1 g1 r1 q1 => by
    match d, q1, r1 with
    | .obj a _ fs, ⟨rfl, p, hp, q1⟩, r1 =>
      rcases r1 with ⟨dx, xs, rfl, hH, _, rq⟩ | ⟨a', rfl, _, _, rfl, dx, xs, hH, rq⟩
      · obtain ⟨u, hu, ru⟩ := rq.look hp
        exact ⟨a, _, dx, xs, u, rfl, hH, c, na, hu, l u H1 (.py p) x1 g1 ru q1⟩
      · obtain ⟨u, hu, ru⟩ := rq.look hp
        exact ⟨_, _, dx, xs, u, rfl, hH, c, na, hu, l u H1 (.py p) x1 g1 ru q1⟩, m⟩
@[simp] def sFldS (i : Nat) (n f : Str) (t : VT) : VS := fun ρ De => t ρ (fun d => ∃ p a fs, d = .py p ∧ ρ[i]? = some (.own (.obj a n fs)) ∧ fs.length < 1000 ∧ De.nx (ρ.set i (.own (.obj a n (putFD f p fs))))) (De.ex ρ)
end
/-! ### what an __init__ promises -/
abbrev SI := List D → (List (Str × PyData) → Prop) → (Er → Prop) → Prop
def spI (b : Bg) (n : Str) (S : SI) : Sp := fun vs H Q E => ∃ (x dx : Addr) (vs' : List V) (Z : Addr → Prop) (ds : List D) (Qd : List (Str × PyData) → Prop) (Ed : Er → Prop), vs = .ref x :: vs' ∧ H x = some (.ins (b.cls n) dx []) ∧ Gd b Z H ∧ ¬ Z x ∧ Rps b (fun c => Z c ∨ c = x) H vs' ds ∧ S ds Qd Ed ∧
  (∀ H' fs, (∀ a o, H a = some o → ¬ b.B a → a ≠ x → H' a = some o) → b.G H' → Ow b (fun c => Z c ∨ c = x) H' x (.obj x n fs) → Qd fs → Q .non H') ∧
  ∀ c d H' er, (∀ a o, H a = some o → ¬ b.B a → a ≠ x → H' a = some o) → b.G H' → ErRp b Z H' c d er → Ed er → E c d H'
@[simp] def envI (x : Addr) (n : Str) (N : Nat) (ds : List D) : VEnv := .own (.obj x n []) :: envOf (N - 1) ds
@[simp] def finI (x : Addr) (n : Str) (Q : List (Str × PyData) → Prop) (E : Er → Prop) : VEnds := { nx := fun ρ => ∃ fs, ρ[0]? = some (.own (.obj x n fs)) ∧ Q fs, rt := fun _ => False, bk := fun _ => False, ct := fun _ => False, ex := fun _ => E }
section
variable {P : Program} {w : World} {K : PySem.W.Frag} {mg : Str → Option Value} {base : Heap} {b : Bg} {k : Nat} {x qual n : Str} {st : Stmt} {f : Addr} {fd : FuncData} {N ps : List Str} {S : SI}
end
/-! ### n(..) -/
section
variable {X : Cx} {CX : CXT} {k : Nat} {f C : Addr} {fd : FuncData} {ps : List Str} {sp : Sp} {dvs : List V} {ds : List Value} {E : L2.St → XK} {x m : Str} {p pos apos : Pos} {e o : Expr} {es : List Expr} {ta : TE} {t : TA}
def tMakeS (C : Addr) (sp : Sp) (E : L2.St → XK) (t : TA) : TE := fun σ H Q => t σ H fun vs H1 => ∀ x dx, H1 x = none → H1 dx = none → dx ≠ x →
  sp (.ref x :: vs) (upd (upd H1 dx (.own x)) x (.ins C dx [])) (fun v H2 => v = .non ∧ Q (.ref x) H2) (E σ)
theorem run_makeS {pins : List (Addr × Obj)} {σ : L2.St} {H : Hp} {s : Shared} {Q : VK} {us : List Value} {vs : List V} (M : Mk X.K C f) (F : FnOk X.prog X.w X.K X.mg X.base CX k f fd ps sp) (hr : Room (k + 1) X.A) (hb : Binds X.K fd ps [])
    (hx : PassesAt CX X σ (E σ)) (I : Inv X pins σ H s) (r : Vals vs us)
    (h : ∀ x dx, H x = none → H dx = none → dx ≠ x → sp (.ref x :: vs) (upd (upd H dx (.own x)) x (.ins C dx [])) (fun v H2 => v = .non ∧ Q (.ref x) H2) (E σ)) :
    wpAny (model X.prog X.w) X.A (call (.ref C) us) (EP X pins σ Q) X.xe s := by
  have hq := h (s.heap.objs.size + 1) s.heap.objs.size (I.hok.fresh (Nat.le_succ _)) (I.hok.fresh (Nat.le_refl _)) (Nat.ne_of_lt (Nat.lt_succ_self _))
  have I2 := Inv.made (C := C) I
  have r2 : Vals (V.ref (s.heap.objs.size + 1) :: vs) (Value.ref (s.heap.objs.size + 1) :: us) := .cons rfl r
  have hl : ((Value.ref (s.heap.objs.size + 1) :: us) ++ []).length = ps.length := by
    have e := r2.length
    rw [F.len _ _ _ _ hq] at e
    rw [List.append_nil]
    exact e.symm
  have hb' := hb _ (Value.ref (s.heap.objs.size + 1) :: us) I2.kIn hl
  rw [List.append_nil] at hb'
  refine wpAny_call (make_map (f := f) I.kIn M.makes M.init (beq_iff_eq.mp M.fn) (codeAny_mono (F.run _ X.stack _ _ ⟨Value.ref (s.heap.objs.size + 1) :: us, []⟩ (Value.ref (s.heap.objs.size + 1) :: us) _ _ (E σ) (hr.make C us [])
    (I2.env0.make C us []) hb' r2 hq) fun r s' hq' => ?_))
  cases r with
  | error e => exact hx pins _ _ e s' I2 hq'
  | ok fl =>
    cases fl with
    | ret u =>
      obtain ⟨v, H', I3, rv, ev, q3⟩ := I2.after hq'
      subst ev
      exact ⟨rv, ⟨V.ref (s.heap.objs.size + 1), H', I3, rfl, q3⟩⟩
    | next => exact False.elim hq'
    | brk => exact False.elim hq'
    | cont => exact False.elim hq'
theorem pe_makeS (M : Mk X.K C f) (F : FnOk X.prog X.w X.K X.mg X.base CX k f fd ps sp) (hr : Room (k + 1) X.A) (hg : Gl X x) (hm : X.mg x = some (.ref C)) (hb : Binds X.K fd ps []) (hx : ∀ σ, PassesAt CX X σ (E σ))
    (ha : PA X (e :: es) t) (hdb : (x == ("__debug__" : Str)) = false := by decide) (he : starEach (e :: es) X.env = (false, eval e X.env) :: starEach es X.env := by rfl) (hpl : (backTo pos (starEach es X.env)).any (·.1) = false := by rfl) :
    PE X (.Call (.Name x p) (e :: es) [] pos) (tMakeS C sp E t) := by
  refine ⟨fun pins s σ H Q I h => ?_⟩
  refine wpAny_Call_Name_kw (ld_glob I hg hm ?_ hdb)
  refine PySem.W.callWith_K (h₀ := X.base) I.ok.mod.kin M.kp (thn (ha.run pos pins s σ H _ I h) fun us s1 ⟨vs, H1, I1, r, q⟩ => ⟨I1.kIn, ?_⟩) he hpl
  exact run_makeS M F hr hb (hx σ) I1 r q
def tMethS (C : Addr) (m : Str) (sp : Sp) (E : L2.St → XK) (ta : TE) (t : TA) : TE := fun σ H Q => ta σ H fun x H1 => ∃ a dx fs, x = .ref a ∧ H1 a = some (.ins C dx fs) ∧ fs.lookup m = none ∧
  t σ H1 fun vs H2 => sp (x :: vs) H2 Q (E σ)
theorem pe_methS {pl : Sem Bool} (he : PE X o ta) (c : Cls X.K C) (hm : Meth X.K C m f) (F : FnOk X.prog X.w X.K X.mg X.base CX k f fd ps sp) (hr : Room k X.A) (hb : Binds X.K fd ps []) (hx : ∀ σ, PassesAt CX X σ (E σ)) (ha : PA X (e :: es) t)
    (hst : starEach (e :: es) X.env = (false, eval e X.env) :: starEach es X.env := by rfl) (hpl : (backTo pos (starEach es X.env)).any (·.1) = false := by rfl)
    (ht : eval (.Call (.Attribute o m apos) (e :: es) [] pos) X.env = (do
      let ov ← eval o X.env
      standAt apos.atName
      let (f, first) ← holding [ov] (getMethod ov m pl)
      callWith pos f first (backTo pos (starEach (e :: es) X.env)) (backToKw pos (keywordEach [] X.env))) := by rfl) :
    PE X (.Call (.Attribute o m apos) (e :: es) [] pos) (tMethS C m sp E ta t) := by
  refine ⟨fun pins s σ H Q I h => ?_⟩
  refine PySem.W.methodCall_KW (pl := pl) (thn (he.run pins s σ H _ I h) fun u s1 ⟨x, H1, I1, rx, a, dx, fs, ex, ea, l, q⟩ => ?_) ht
  subst ex
  obtain rfl : u = Value.ref a := rx
  refine getmeth_ok I1 ea c hm l ?_
  refine PySem.W.callWith_K (first := [.ref a]) (h₀ := X.base) I.ok.mod.kin hm.kp (thn (ha.run pos pins s1 σ H1 _ I1 q) fun us s2 ⟨vs, H2, I2, r, q2⟩ => ⟨I2.kIn, ?_⟩) hst hpl
  exact run_fnS (us := .ref a :: us) (vs := .ref a :: vs) F hr hb (hx σ) I2 (.cons rfl r) q2
theorem pe_methS0 {pl : Sem Bool} (he : PE X o ta) (c : Cls X.K C) (hm : Meth X.K C m f) (F : FnOk X.prog X.w X.K X.mg X.base CX k f fd ps sp) (hr : Room k X.A) (hb : Binds X.K fd ps []) (hx : ∀ σ, PassesAt CX X σ (E σ))
    (ht : eval (.Call (.Attribute o m apos) [] [] pos) X.env = (do
      let ov ← eval o X.env
      standAt apos.atName
      let (f, first) ← holding [ov] (getMethod ov m pl)
      callWith pos f first (backTo pos (starEach [] X.env)) (backToKw pos (keywordEach [] X.env))) := by rfl) :
    PE X (.Call (.Attribute o m apos) [] [] pos) (tMethS C m sp E ta tNil) := by
  refine ⟨fun pins s σ H Q I h => ?_⟩
  refine PySem.W.methodCall_KW (pl := pl) (thn (he.run pins s σ H _ I h) fun u s1 ⟨x, H1, I1, rx, a, dx, fs, ex, ea, l, q⟩ => ?_) ht
  subst ex
  obtain rfl : u = Value.ref a := rx
  refine getmeth_ok I1 ea c hm l ?_
  exact PySem.W.callWith_K0 (first := [.ref a]) I1.kIn hm.kp (run_fnS (us := [.ref a]) (vs := [.ref a]) F hr hb (hx σ) I1 (.cons rfl .nil) q)
end
structure CalI (P : Program) (w : World) (K : PySem.W.Frag) (mg : Str → Option Value) (base : Heap) (b : Bg) (k : Nat) (n : Str) (ps : List Str) (S : SI) where
  f : Addr
  fd : FuncData
  F : FnOk P w K mg base (L2.CX P w) k f fd ps (spI b n S)
  M : Mk K (b.cls n) f
  g : mg n = some (.ref (b.cls n))
  bd : Binds K fd ps []
structure CalM (P : Program) (w : World) (K : PySem.W.Frag) (mg : Str → Option Value) (base : Heap) (b : Bg) (k : Nat) (n m : Str) (ps : List Str) (S : SV) where
  f : Addr
  fd : FuncData
  F : FnOk P w K mg base (L2.CX P w) k f fd ps (spV b S)
  c : Cls K (b.cls n)
  m : Meth K (b.cls n) m f
  bd : Binds K fd ps []
@[simp] def vMake (n : Str) (S : SI) (u : VA) : VT := fun ρ Q E => u ρ (fun ds => S ds (fun fs => ∀ a, Q (.obj a n fs)) E) E
@[simp] def vMeth (n m : Str) (S : SV) (t : VT) (u : VA) : VT := fun ρ Q E => t ρ (fun d => ∃ a fs, d = .obj a n fs ∧ fs.lookup m = none ∧ u ρ (fun ds => S (d :: ds) Q E) E) E
section
variable {X : Cx} {b : Bg} {W : WX} {k j : Nat} {n m : Str} {ps : List Str} {S : SV} {SJ : SI} {e o : Expr} {es : List Expr} {u : VA} {t : VT} {p pos apos : Pos}
theorem vn_make (c : CalI X.prog X.w X.K X.mg X.base b k n ps SJ) (hr : Room j X.A) (tk : Takes X W) (hg : Gl X n) (ha : VAs X b W (e :: es) u) (hk : k + 1 ≤ j := by decide) (hdb : (n == ("__debug__" : Str)) = false := by decide)
    (he : starEach (e :: es) X.env = (false, eval e X.env) :: starEach es X.env := by rfl) (hpl : (backTo pos (starEach es X.env)).any (·.1) = false := by rfl) : VN X b W (.Call (.Name n p) (e :: es) [] pos) (vMake n SJ u) := by
  refine pe_mono (pe_makeS c.M c.F (hr.mono hk) hg c.g c.bd (passAt tk) ha hdb he hpl) ?_
  exact fun σ H Q ⟨Zo, Z, ρ, Qd, Ed, v, q, l, mm⟩ => ⟨Zo, Z, ρ, _, Ed, v, q, fun vs H1 ds x1 g1 r1 q1 x dx hx hdx hne => by
    have v1 := v.ex x1 g1
    generalize hH2 : upd (upd H1 dx (.own x)) x (.ins (b.cls n) dx []) = H2
    have at_ : ∀ c, c ≠ x → c ≠ dx → H2 c = H1 c := fun c c1 c2 => by rw [← hH2, upd_ne c1, upd_ne c2]
    have x2 : Ex b H1 H2 := fun c o hc _ => by
      rw [at_ c (fun z => by rw [z, hx] at hc; cases hc) (fun z => by rw [z, hdx] at hc; cases hc)]
      exact hc
    have g2 : b.G H2 := b.loc H1 H2 (fun c hc => at_ c (fun z => b.dom H1 c g1 hc (by rw [z]; exact hx)) (fun z => b.dom H1 c g1 hc (by rw [z]; exact hdx))) (fun c o _ e => by rw [at_ c (fun z => by rw [z, hx] at e; cases e) (fun z => by rw [z, hdx] at e; cases e)]; exact e) g1
    have v2 := v1.ex x2 g2
    have h2x : H2 x = some (.ins (b.cls n) dx []) := by rw [← hH2]; exact upd_same
    have nzx : ¬ Z x := v1.fresh hx
    have n0 : H x = none := by
      cases q : H x with
      | none => rfl
      | some o =>
        by_cases hb : b.B x
        · exact absurd hx (b.dom _ _ g1 hb)
        · rw [x1 x o q hb] at hx; cases hx
    have back : ∀ {H'}, (∀ a o, H2 a = some o → ¬ b.B a → a ≠ x → H' a = some o) → Ex b H H' := fun {H'} h a o e nb =>
      h a o (x2 a o (x1 a o e nb) nb) nb (fun q => by rw [q, n0] at e; cases e)
    refine ⟨x, dx, vs, Z, ds, _, Ed, rfl, h2x, v2.gd, nzx, r1.mono (fun c z => z.imp id fun e => by rw [e]; exact hx) (fun c o e nz => ?_), q1, fun H' fs ext g' ow qf => ⟨rfl, l _ H' (.obj x n fs) (back ext) g' ⟨x, rfl, n0, ow⟩ (qf x)⟩, fun c d H' er ext g' re qe => mm c d H' er (back ext) g' re qe⟩
    exact x2 c o e (v1.nb nz), mm⟩
theorem ve_meth0 {pl : Sem Bool} (c : CalM X.prog X.w X.K X.mg X.base b k n m ps S) (hr : Room j X.A) (tk : Takes X W) (ho : VE X b W o t) (hk : k ≤ j := by decide)
    (ht : eval (.Call (.Attribute o m apos) [] [] pos) X.env = (do
      let ov ← eval o X.env
      standAt apos.atName
      let (f, first) ← holding [ov] (getMethod ov m pl)
      callWith pos f first (backTo pos (starEach [] X.env)) (backToKw pos (keywordEach [] X.env))) := by rfl) : VE X b W (.Call (.Attribute o m apos) [] [] pos) (vMeth n m S t vNil) := by
  refine pe_mono (pe_methS0 (pl := pl) ho c.c c.m c.F (hr.mono hk) c.bd (passAt tk) ht) ?_
  exact fun σ H Q ⟨Zo, Z, ρ, Qd, Ed, v, q, l, mm⟩ => ⟨Zo, Z, ρ, _, Ed, v, q, fun x H1 d x1 g1 r1 ⟨a, fs, ed, hf, q1⟩ => by
    subst ed
    have v1 := v.ex x1 g1
    obtain ⟨dx, xs, ex, hH, nz, rq⟩ := id r1
    exact ⟨a, dx, xs, ex, hH, rq.none hf, Z, [.obj a n fs], Qd, Ed, v1.gd, .cons r1 .nil, q1, fun y H3 d x3 g3 r3 q3 => l y H3 d (x1.trans x3) g3 r3 q3, fun c z H3 er x3 g3 r3 q3 => mm c z H3 er (x1.trans x3) g3 r3 q3⟩, mm⟩
end
/-! ### the class's facts, for the join -/
structure ClsB (K : PySem.W.Frag) (C : Addr) (n qual : Str) (st : Stmt) : Prop where
  ns : PySem.W.nsIn K mainGlobals n = some (some (.ref C))
  c : Cls K C
  ini : ∃ (fI : Addr) (fd : FuncData), Fun K "__init__" qual st fI fd ∧ Mk K C fI
structure ClsK (K : PySem.W.Frag) (n qual : Str) (st : Stmt) : Prop where
  ex : ∃ C : Addr, ClsB K C n qual st
theorem clsK {K : PySem.W.Frag} {C fI : Addr} {n qual : Str} {st : Stmt} {oc kV doc pm cdv ct : Value} {od an : Option Addr} {osl : Array (Option Value)} (a1 : PySem.W.nsIn K mainGlobals n = some (some (.ref C)))
    (a2 : PySem.W.plainGet K C Str.empty = true) (a3 : PySem.W.hasDictIn K C = true) (a4 : PySem.W.plainOver K C = true) (a5 : PySem.W.findIn K (.ref C) "__setattr__" = some (some (.builtin "object.__setattr__")))
    (m1 : PySem.W.makesIn K C = true) (m2 : PySem.W.findIn K (.ref C) "__init__" = some (some (.ref fI))) (m3 : PySem.W.isFn K (.ref fI) = true) (m4 : PySem.W.keepIn K (.ref C) = true)
    (d3 : K.lookup fI = some ⟨oc, od, .func (PySem.W.fnOf "__init__" qual (defArgs st) (defBody st) (defScope st) .none kV doc pm an cdv ct), osl⟩) (d4 : PySem.W.codeIn K cdv qual = true) (d5 : PySem.W.keepIn K (.ref fI) = true) : ClsK K n qual st :=
  ⟨C, a1, ⟨a2, a3, a4, a5⟩, fI, _, fun_mk d3 d4 d5, m1, m2, m3, m4⟩
/-- the class n has no attribute f -/
structure NoAtK (K : PySem.W.Frag) (n f : Str) : Prop where
  ex : ∃ C : Addr, PySem.W.nsIn K mainGlobals n = some (some (.ref C)) ∧ NoAttr K C f
theorem noAtK {K : PySem.W.Frag} {C : Addr} {n f : Str} (a1 : PySem.W.nsIn K mainGlobals n = some (some (.ref C))) (a2 : PySem.W.findIn K (.ref C) f = some none) : NoAtK K n f := ⟨C, a1, a2⟩
theorem NoAtK.at {K : PySem.W.Frag} {C : Addr} {n f : Str} (a : NoAtK K n f) (h : PySem.W.nsIn K mainGlobals n = some (some (.ref C))) : NoAttr K C f := by
  obtain ⟨D, h1, h2⟩ := a.ex
  have : D = C := by
    have := h1.symm.trans h
    injection this with this; injection this with this; injection this
  subst this
  exact h2
/-- the class n has the method m -/
structure MethK (K : PySem.W.Frag) (n m qual : Str) (st : Stmt) : Prop where
  ex : ∃ C : Addr, PySem.W.nsIn K mainGlobals n = some (some (.ref C)) ∧ ∃ (fI : Addr) (fd : FuncData), Fun K m qual st fI fd ∧ Meth K C m fI
theorem methK {K : PySem.W.Frag} {C fI : Addr} {n m qual : Str} {st : Stmt} {oc kV doc pm cdv ct : Value} {od an : Option Addr} {osl : Array (Option Value)} (a1 : PySem.W.nsIn K mainGlobals n = some (some (.ref C)))
    (m2 : PySem.W.findIn K (.ref C) m = some (some (.ref fI))) (m3 : PySem.W.isFn K (.ref fI) = true)
    (d3 : K.lookup fI = some ⟨oc, od, .func (PySem.W.fnOf m qual (defArgs st) (defBody st) (defScope st) .none kV doc pm an cdv ct), osl⟩) (d4 : PySem.W.codeIn K cdv qual = true) (d5 : PySem.W.keepIn K (.ref fI) = true) : MethK K n m qual st :=
  ⟨C, a1, fI, _, fun_mk d3 d4 d5, m2, m3, d5⟩
theorem MethK.at {K : PySem.W.Frag} {C : Addr} {n m qual : Str} {st : Stmt} (a : MethK K n m qual st) (h : PySem.W.nsIn K mainGlobals n = some (some (.ref C))) : ∃ (fI : Addr) (fd : FuncData), Fun K m qual st fI fd ∧ Meth K C m fI := by
  obtain ⟨D, h1, h2⟩ := a.ex
  have : D = C := by
    have := h1.symm.trans h
    injection this with this; injection this with this; injection this
  subst this
  exact h2
end VL
set_option Elab.async false
set_option linter.all false
set_option maxRecDepth 100000
set_option maxHeartbeats 4000000
/-! VL73: a, b, .. = a list -/
namespace VL
open PySem PySem.Spec PyProof.Rows L2
section
variable {X : Cx} {b : Bg} {pos : Pos}
@[simp] def tgUnl (n : Nat) (u : VTgs) : VTg
  | .py (.list ps), ρ, Q => ps.length = n ∧ u (ps.map D.py) ρ Q
  | _, _, _ => False
theorem tgUnl_ex {n : Nat} {u : VTgs} : ∀ {d : D} {ρ : VEnv} {Q : VEnv → Prop}, tgUnl n u d ρ Q → ∃ ps, d = .py (.list ps) ∧ ps.length = n ∧ u (ps.map D.py) ρ Q
  | .py (.list ps), _, _, h => ⟨ps, rfl, h⟩
theorem vg_unl {tgs : List Expr} {k n : Nat} {js : List Nat} {u : VTgs} (hc : X.calm = true) (h : VGs X b tgs js u) (hn : (assignEach tgs X.env).length = n := by rfl) (hst : (assignEach tgs X.env).findIdx? (·.1) = none := by rfl) : VG X b (.Tuple tgs k pos) js (tgUnl n u) :=
  pg_mono (pg_unl hc h hn hst) fun v σ H Q ⟨H0, M, Zo, Z, ρ, d, Qd, f, r, hh, k⟩ => by
    obtain ⟨ps, e, hl, q⟩ := tgUnl_ex hh
    subst e
    obtain ⟨a, xs, rfl, ha, qa⟩ := Rb.list (b := b) (.inl r)
    exact ⟨a, xs, rfl, SqL.of ha, by rw [qa.length]; exact hl, H0, M, Zo, Z, ρ, _, Qd, f, qa.to, q, k⟩
end
end VL
set_option Elab.async false
set_option linter.all false
set_option maxRecDepth 100000
set_option maxHeartbeats 4000000
/-! VL74: a dict beside a text -/
namespace PySem
open PySem.Spec PyProof.Rows PySem.SeqAt
open Sem (wp)
end PySem
namespace VL
open PySem PySem.Spec PyProof.Rows L2
section
variable {X : Cx} {b : Bg} {W : WX} {e1 e2 : Expr} {t1 t2 : VT} {pos : Pos}
/-- .. a text on the right; a dict is no text -/
@[simp] def gEqT : D → D → (D → Prop) → Prop
  | .py (.dict _), .py (.str _), Q => Q (.py (.bool false))
  | x, y, Q => gEq x y Q
@[simp] def gNeT : D → D → (D → Prop) → Prop
  | .py (.dict _), .py (.str _), Q => Q (.py (.bool true))
  | x, y, Q => gNe x y Q
end
end VL
set_option Elab.async false
set_option linter.all false
set_option maxRecDepth 100000
set_option maxHeartbeats 4000000
/-! VL75: the cells: a list of a list (that stands still) and two numbers -/
namespace VL
open PySem PySem.Spec PyProof.Rows L2
section
variable {X : Cx} {e : Expr} {t : TE}
end
end VL
set_option Elab.async false
set_option linter.all false
set_option maxRecDepth 100000
set_option maxHeartbeats 4000000
/-! VL76: sorted of a list of texts, any number of them -/
namespace VL
open PySem PySem.Spec PyProof.Rows L2
/-- the order of texts -/
def ltT (a b : Str) : Bool := ltCps a.cps.toList b.cps.toList
def sortSt (L : List Str) : List Str := L.mergeSort fun a b => !ltT b a
section
variable {X : Cx}
end
@[simp] def gSortedS : List D → (D → Prop) → Prop
  | [.py (.list xs)], Q => ∃ L : List Str, xs = L.map PyData.str ∧ Q (.py (.list ((sortSt L).map PyData.str)))
  | _, _ => False
section
variable {X : Cx} {b : Bg} {W : WX} {e : Expr} {es : List Expr} {u : VA} {p pos : Pos}
end
end VL
set_option Elab.async false
set_option linter.all false
set_option maxRecDepth 100000
set_option maxHeartbeats 4000000
/-! VL77: len(set(l)), l a list of ints -/
namespace VL
open PySem PySem.Spec PyProof.Rows L2
section
variable {X : Cx}
end
@[simp] def vLenSetL (t : VT) : VT := fun ρ Q E => t ρ (fun d => ∃ xs ns, d = .py (.list xs) ∧ allI xs = some ns ∧ ns.length < 4095 ∧ ∀ ks : List Int, ks.Nodup → (∀ j, j ∈ ks ↔ j ∈ ns) → Q (.py (.int (ks.length : Nat)))) E
end VL
set_option Elab.async false
set_option linter.all false
set_option maxRecDepth 100000
set_option maxHeartbeats 4000000
/-! VL78: list(zip(a, b)), tuple(zip(a, b)) of two lists or of two tuples -/
namespace VL
open PySem PySem.Spec PyProof.Rows L2
/-- an iterator of a tuple (true) or a list that stands at item k -/
def ZSrc : Bool → Heap → Addr → Addr → Nat → Array Value → Prop
  | true, h, i, l, k, xs => h.IsTupleIter i l k ∧ h.IsTuple l xs
  | false, h, i, l, k, xs => h.IsListIter i l k ∧ h.IsList l xs
theorem ZSrc.keep {t : Bool} {h h' : Heap} {i l : Addr} {k : Nat} {xs : Array Value} (st : ZSrc t h i l k xs) (k1 : ∀ o, h.get? i = some o → h'.get? i = some o) (k2 : ∀ o, h.get? l = some o → h'.get? l = some o) : ZSrc t h' i l k xs := by
  cases t with
  | true =>
    obtain ⟨⟨o, ho, r⟩, ⟨o2, ho2, r2⟩⟩ := st
    exact ⟨⟨o, k1 o ho, r⟩, ⟨o2, k2 o2 ho2, r2⟩⟩
  | false =>
    obtain ⟨⟨o, ho, r⟩, ⟨o2, ho2, r2⟩⟩ := st
    exact ⟨⟨o, k1 o ho, r⟩, ⟨o2, k2 o2 ho2, r2⟩⟩
section
variable {prog : Program} {w : World} {A : Around} {E : Value → Shared → Prop} {s : Shared}
theorem src_item {t : Bool} {i l : Addr} {k : Nat} {xs : Array Value} {x : Value} {Q : Value → Shared → Prop} (st : ZSrc t s.heap i l k xs) (ne : l ≠ i) (hx : xs[k]? = some x)
    (q : ∀ h', ZSrc t h' i l (k + 1) xs → Heap.SameBut i s.heap h' → Q x { s with heap := h' }) : wpAny (model prog w) A (Builtin.SmallTypes.nextOf (.ref i)) Q E s := by
  cases t with
  | true => exact PySem.wpAny_nextOf_tuple_item st.1 st.2 hx fun h' r sb => q h' ⟨r, st.2.at fun o e => sb.extBut _ _ ne e⟩ sb
  | false => exact wpAny_nextOf_list_item st.1 st.2 hx fun h' r sb => q h' ⟨r, st.2.at fun o e => sb.extBut _ _ ne e⟩ sb
theorem src_end {t : Bool} {i l : Addr} {k : Nat} {xs : Array Value} {Q : Value → Shared → Prop} (hh : A.handled = none) (st : ZSrc t s.heap i l k xs) (hx : xs[k]? = none)
    (q : ∀ h' e, Heap.ExtBut i s.heap h' → (∃ o, h'.get? e = some o ∧ o.cls = .type "StopIteration") → E (.ref e) { s with heap := h' }) : wpAny (model prog w) A (Builtin.SmallTypes.nextOf (.ref i)) Q E s := by
  cases t with
  | true => exact PySem.wpAny_nextOf_tuple_end hh st.1 st.2 hx q
  | false => exact wpAny_nextOf_list_end hh st.1 st.2 hx q
/-- the next pair while the one that was given out is still there -/
theorem zh_item {t : Bool} {z TI TO T i1 i2 a b : Addr} {f : Bool} {oT : Obj} {k : Nat} {xs ys : Array Value} {x y : Value} {Q : Option Value → Shared → Prop} (D : ZipApart z TI TO i1 i2 a b) (hz : IsZipHeld s.heap z TI TO T f) (hT : s.heap.get? T = some oT) (hTI : IsPair s.heap TI (.ref i1) (.ref i2))
    (st1 : ZSrc t s.heap i1 a k xs) (st2 : ZSrc t s.heap i2 b k ys) (hx : xs[k]? = some x) (hy : ys[k]? = some y)
    (q : ∀ h', IsZipHeld h' z TI TO T true → ZSrc t h' i1 a (k + 1) xs → ZSrc t h' i2 b (k + 1) ys → IsPair h' s.heap.objs.size x y → h'.objs.size = s.heap.objs.size + 1 → (∀ c o, c ≠ z → c ≠ i1 → c ≠ i2 → s.heap.get? c = some o → h'.get? c = some o) → Q (some (.ref s.heap.objs.size)) { s with heap := h' }) :
    wpAny (model prog w) A (pyNext (.ref z)) Q E s := by
  have isZ : s.TypeIs (.ref z) "zip" := ⟨_, hz, rfl⟩
  have body : ∀ (A' : Around) (E' : Value → Shared → Prop) (QV : Value → Shared → Prop), (∀ h', IsZipHeld h' z TI TO T true → ZSrc t h' i1 a (k + 1) xs → ZSrc t h' i2 b (k + 1) ys → IsPair h' s.heap.objs.size x y → h'.objs.size = s.heap.objs.size + 1 → (∀ c o, c ≠ z → c ≠ i1 → c ≠ i2 → s.heap.get? c = some o → h'.get? c = some o) → QV (.ref s.heap.objs.size) { s with heap := h' }) →
      wpAny (model prog w) A' (Builtin.«zip.__next__» ⟨[.ref z], []⟩) (fun fin s' => ∃ v, fin = .done (.ret v) ∧ QV v s') E' s := by
    intro A' E' QV hq
    show wpAny _ _ (field (Value.ref z) 2 >>= _) _ _ s
    refine wpAny_bind (wpAny_field (x := .bool false) hz rfl rfl ?_)
    show wpAny _ _ (field (Value.ref z) 3 >>= _) _ _ s
    refine wpAny_bind (wpAny_field (x := .ref TI) hz rfl rfl ?_)
    refine wpAny_bind (wpAny_seqItems (h := ?_) hTI rfl)
    show wpAny _ _ (Builtin.SmallTypes.ownedTupleIsFree (Value.ref z) >>= _) _ _ s
    refine wpAny_bind (wpAny_tupleHeld_zip hz hT fun g1 z1 sb1 => ?_)
    simp only [if_false, Bool.false_eq_true]
    refine wpAny_bind ?_
    rw [← Array.forIn_toList]
    simp only [List.forIn_nil, List.forIn_cons]
    refine wpAny_bind (wpAny_bind (wpAny_holding ?_))
    show wpAny _ _ (Builtin.SmallTypes.nextOf (Value.ref i1) >>= _) _ _ _
    have e1 : ZSrc t g1 i1 a k xs := st1.keep (fun o e => sb1.extBut _ _ D.i1z e) fun o e => sb1.extBut _ _ D.l1z e
    refine wpAny_bind (src_item (s := { s with heap := g1 }) e1 D.l1i1 hx fun g2 f1 sb2 => wpAny_pure (wpAny_pure ?_))
    refine wpAny_bind (wpAny_bind (wpAny_holding ?_))
    show wpAny _ _ (Builtin.SmallTypes.nextOf (Value.ref i2) >>= _) _ _ _
    have e2 : ZSrc t g2 i2 b k ys := (st2.keep (h' := g1) (fun o e => sb1.extBut _ _ D.i2z e) fun o e => sb1.extBut _ _ D.l2z e).keep (fun o e => sb2.extBut _ _ D.i12.symm e) fun o e => sb2.extBut _ _ D.l2i1 e
    refine wpAny_bind (src_item (s := { s with heap := g2 }) e2 D.l2i2 hy fun g3 f2 sb3 => wpAny_pure (wpAny_pure (wpAny_pure ?_)))
    show wpAny _ _ (newTuple [x, y] >>= _) _ _ _
    refine wpAny_bind (wpAny_newTuple ?_)
    have hsz : g3.objs.size = s.heap.objs.size := by rw [sb3.1, sb2.1, sb1.1]
    have z3 : IsZipHeld g3 z TI TO T true := sb3.extBut _ _ D.i2z.symm (sb2.extBut _ _ D.i1z.symm z1)
    have f1' : ZSrc t g3 i1 a (k + 1) xs := f1.keep (fun o e => sb3.extBut _ _ D.i12 e) fun o e => sb3.extBut _ _ D.l1i2 e
    have kp : ∀ c o, c ≠ z → c ≠ i1 → c ≠ i2 → s.heap.get? c = some o → g3.get? c = some o := fun c o c1 c2 c3 e => sb3.extBut _ _ c3 (sb2.extBut _ _ c2 (sb1.extBut _ _ c1 e))
    have np : IsPair (g3.push { cls := .type "tuple", data := .seq #[x, y] }) g3.objs.size x y := Heap.get?_push_size _ rfl
    have ns : (g3.push { cls := .type "tuple", data := .seq #[x, y] }).objs.size = g3.objs.size + 1 := Heap.size_push ..
    refine wpAny_pure ⟨_, rfl, ?_⟩
    show QV (Value.ref g3.objs.size) _
    rw [hsz] at np ns ⊢
    exact hq _ (Heap.get?_push_of_some _ z3) (f1'.keep (fun o e => Heap.get?_push_of_some _ e) fun o e => Heap.get?_push_of_some _ e) (f2.keep (fun o e => Heap.get?_push_of_some _ e) fun o e => Heap.get?_push_of_some _ e) np ns fun c o c1 c2 c3 e => Heap.get?_push_of_some _ (kp c o c1 c2 c3 e)
  unfold pyNext
  exact wpAny_bind (wpAny_attempt (wpAny_callSpecial?_slot (name := Str.ofString "__next__") isZ F.slot_zip_next (wpAny_call_entry F.slot_zip_next isZ F.entry_zip_next (body _ _ _ fun h' a1 a2 a3 a4 a5 a6 => wpAny_pure (q h' a1 a2 a3 a4 a5 a6)) (F.args_zip_next_1 _))))
theorem zh_end {t : Bool} {z TI TO T i1 i2 a b : Addr} {f : Bool} {oT : Obj} {k : Nat} {xs ys : Array Value} {Q : Option Value → Shared → Prop} (hh : A.handled = none) (D : ZipApart z TI TO i1 i2 a b) (hz : IsZipHeld s.heap z TI TO T f) (hT : s.heap.get? T = some oT) (hTI : IsPair s.heap TI (.ref i1) (.ref i2))
    (st1 : ZSrc t s.heap i1 a k xs) (st2 : ZSrc t s.heap i2 b k ys) (he : xs[k]? = none ∨ ys[k]? = none)
    (q : ∀ h', (∀ c o, c ≠ z → c ≠ i1 → c ≠ i2 → s.heap.get? c = some o → h'.get? c = some o) → Q none { s with heap := h' }) : wpAny (model prog w) A (pyNext (.ref z)) Q E s := by
  have isZ : s.TypeIs (.ref z) "zip" := ⟨_, hz, rfl⟩
  have body : ∀ (A' : Around), A'.handled = none → ∀ (QQ : PySem.Fin → Shared → Prop) (E2 : Value → Shared → Prop), (∀ h' e, (∀ c o, c ≠ z → c ≠ i1 → c ≠ i2 → s.heap.get? c = some o → h'.get? c = some o) → (∃ o, h'.get? e = some o ∧ o.cls = .type "StopIteration") → E2 (.ref e) { s with heap := h' }) → wpAny (model prog w) A' (Builtin.«zip.__next__» ⟨[.ref z], []⟩) QQ E2 s := by
    intro A' hh QQ E2 hE
    show wpAny _ _ (field (Value.ref z) 2 >>= _) _ _ s
    refine wpAny_bind (wpAny_field (x := .bool false) hz rfl rfl ?_)
    show wpAny _ _ (field (Value.ref z) 3 >>= _) _ _ s
    refine wpAny_bind (wpAny_field (x := .ref TI) hz rfl rfl ?_)
    refine wpAny_bind (wpAny_seqItems (h := ?_) hTI rfl)
    show wpAny _ _ (Builtin.SmallTypes.ownedTupleIsFree (Value.ref z) >>= _) _ _ s
    refine wpAny_bind (wpAny_tupleHeld_zip hz hT fun g1 z1 sb1 => ?_)
    simp only [if_false, Bool.false_eq_true]
    refine wpAny_bind ?_
    rw [← Array.forIn_toList]
    simp only [List.forIn_nil, List.forIn_cons]
    refine wpAny_bind (wpAny_bind (wpAny_holding ?_))
    show wpAny _ _ (Builtin.SmallTypes.nextOf (Value.ref i1) >>= _) _ _ _
    have e1 : ZSrc t g1 i1 a k xs := st1.keep (fun o e => sb1.extBut _ _ D.i1z e) fun o e => sb1.extBut _ _ D.l1z e
    cases hx : xs[k]? with
    | none => exact wpAny_bind (src_end (s := { s with heap := g1 }) hh e1 hx fun g2 e sb2 he => hE g2 e (fun c o c1 c2 _ r => sb2 _ _ c2 (sb1.extBut _ _ c1 r)) he)
    | some x =>
      have hy : ys[k]? = none := he.resolve_left fun z => by rw [hx] at z; cases z
      refine wpAny_bind (src_item (s := { s with heap := g1 }) e1 D.l1i1 hx fun g2 f1 sb2 => wpAny_pure (wpAny_pure ?_))
      refine wpAny_bind (wpAny_bind (wpAny_holding ?_))
      show wpAny _ _ (Builtin.SmallTypes.nextOf (Value.ref i2) >>= _) _ _ _
      have e2 : ZSrc t g2 i2 b k ys := (st2.keep (h' := g1) (fun o e => sb1.extBut _ _ D.i2z e) fun o e => sb1.extBut _ _ D.l2z e).keep (fun o e => sb2.extBut _ _ D.i12.symm e) fun o e => sb2.extBut _ _ D.l2i1 e
      exact wpAny_bind (src_end (s := { s with heap := g2 }) hh e2 hy fun g3 e sb3 he => hE g3 e (fun c o c1 c2 c3 r => sb3 _ _ c3 (sb2.extBut _ _ c2 (sb1.extBut _ _ c1 r))) he)
  unfold pyNext
  refine wpAny_bind (wpAny_attempt (wpAny_callSpecial?_slot (name := Str.ofString "__next__") isZ F.slot_zip_next (wpAny_call_entry F.slot_zip_next isZ F.entry_zip_next (body _ (show A.in1.handled = none from hh) _ _ fun h' e hk he => ?_) (F.args_zip_next_1 _))))
  obtain ⟨o, ho, hc⟩ := he
  refine wpAny_bind (wpAny_isInstance (b := true) (T := "StopIteration") ⟨o, ho, hc⟩ isSubtype_stop ?_)
  exact wpAny_pure (q _ hk)
end
/-! ### the walk to its end -/
/-- where the zip stands: nothing given out yet, or the last pair still there -/
def ZSt (t : Bool) (h : Heap) (z TI TO i1 i2 a b S : Addr) (k : Nat) (xs ys : Array Value) : Prop :=
  IsPair h TI (.ref i1) (.ref i2) ∧ ZSrc t h i1 a k xs ∧ ZSrc t h i2 b k ys ∧
    ((IsZip h z TI TO .none ∧ ∃ x y, IsPair h TO x y) ∨ ∃ T f oT, IsZipHeld h z TI TO T f ∧ h.get? T = some oT ∧ S < T)
structure ZFar (z TI TO i1 i2 a b S : Addr) : Prop where
  z : z < S
  TI : TI < S
  TO : TO < S
  i1 : i1 < S
  i2 : i2 < S
  a : a < S
  b : b < S
theorem ZSt.keep {t : Bool} {h h' : Heap} {z TI TO i1 i2 a b S : Addr} {k : Nat} {xs ys : Array Value} (F : ZFar z TI TO i1 i2 a b S) (st : ZSt t h z TI TO i1 i2 a b S k xs ys) (kp : ∀ c o, c ≠ S → h.get? c = some o → h'.get? c = some o) : ZSt t h' z TI TO i1 i2 a b S k xs ys := by
  obtain ⟨h1, h2, h3, h4⟩ := st
  refine ⟨kp _ _ (Nat.ne_of_lt F.TI) h1, h2.keep (fun o => kp _ o (Nat.ne_of_lt F.i1)) fun o => kp _ o (Nat.ne_of_lt F.a), h3.keep (fun o => kp _ o (Nat.ne_of_lt F.i2)) fun o => kp _ o (Nat.ne_of_lt F.b), ?_⟩
  rcases h4 with ⟨e1, x, y, e2⟩ | ⟨T, f, oT, e1, e2, e3⟩
  · exact .inl ⟨kp _ _ (Nat.ne_of_lt F.z) e1, x, y, kp _ _ (Nat.ne_of_lt F.TO) e2⟩
  · exact .inr ⟨T, f, oT, kp _ _ (Nat.ne_of_lt F.z) e1, kp _ _ (Nat.ne_of_gt e3) e2, e3⟩
section
variable {prog : Program} {w : World} {A : Around} {E : Value → Shared → Prop} {s : Shared}
theorem zs_item {t : Bool} {z TI TO i1 i2 a b S : Addr} {k : Nat} {xs ys : Array Value} {x y : Value} {Q : Option Value → Shared → Prop} (D : ZipApart z TI TO i1 i2 a b) (F : ZFar z TI TO i1 i2 a b S) (hS : S < s.heap.objs.size) (st : ZSt t s.heap z TI TO i1 i2 a b S k xs ys) (hx : xs[k]? = some x) (hy : ys[k]? = some y)
    (q : ∀ h', ZSt t h' z TI TO i1 i2 a b S (k + 1) xs ys → IsPair h' s.heap.objs.size x y → h'.objs.size = s.heap.objs.size + 1 → (∀ c o, c ≠ z → c ≠ TO → c ≠ i1 → c ≠ i2 → s.heap.get? c = some o → h'.get? c = some o) → Q (some (.ref s.heap.objs.size)) { s with heap := h' }) :
    wpAny (model prog w) A (pyNext (.ref z)) Q E s := by
  obtain ⟨h1, h2, h3, h4⟩ := st
  rcases h4 with ⟨e1, x0, y0, e2⟩ | ⟨T, f, oT, e1, e2, e3⟩
  · cases t with
    | true => exact RZ.pyNext_zipT_item D e1 h1 e2 h2.1 h3.1 h2.2 h3.2 hx hy fun h' r1 r2 r3 r4 r5 r6 r7 => q h' ⟨r7 _ _ D.TIz D.TITO D.TIi1 D.TIi2 h1, ⟨r3, h2.2.at fun o e => r7 _ o D.l1z D.l1TO D.l1i1 D.l1i2 e⟩, ⟨r4, h3.2.at fun o e => r7 _ o D.l2z D.l2TO D.l2i1 D.l2i2 e⟩, .inr ⟨_, false, _, r1, r5, hS⟩⟩ r5 r6 r7
    | false => exact wpAny_pyNext_zip_item D e1 h1 e2 h2.1 h3.1 h2.2 h3.2 hx hy fun h' r1 r2 r3 r4 r5 r6 r7 => q h' ⟨r7 _ _ D.TIz D.TITO D.TIi1 D.TIi2 h1, ⟨r3, h2.2.at fun o e => r7 _ o D.l1z D.l1TO D.l1i1 D.l1i2 e⟩, ⟨r4, h3.2.at fun o e => r7 _ o D.l2z D.l2TO D.l2i1 D.l2i2 e⟩, .inr ⟨_, false, _, r1, r5, hS⟩⟩ r5 r6 r7
  · refine zh_item D e1 e2 h1 h2 h3 hx hy fun h' r1 r2 r3 r4 r5 r6 => q h' ⟨r6 _ _ D.TIz D.TIi1 D.TIi2 h1, r2, r3, .inr ⟨T, true, oT, r1, r6 _ _ (Nat.ne_of_gt (Nat.lt_trans F.z e3)) (Nat.ne_of_gt (Nat.lt_trans F.i1 e3)) (Nat.ne_of_gt (Nat.lt_trans F.i2 e3)) e2, e3⟩⟩ r4 r5 fun c o c1 _ c3 c4 e => r6 c o c1 c3 c4 e
theorem zs_end {t : Bool} {z TI TO i1 i2 a b S : Addr} {k : Nat} {xs ys : Array Value} {Q : Option Value → Shared → Prop} (hh : A.handled = none) (D : ZipApart z TI TO i1 i2 a b) (st : ZSt t s.heap z TI TO i1 i2 a b S k xs ys) (he : xs[k]? = none ∨ ys[k]? = none)
    (q : ∀ h', (∀ c o, c ≠ z → c ≠ TO → c ≠ i1 → c ≠ i2 → s.heap.get? c = some o → h'.get? c = some o) → Q none { s with heap := h' }) : wpAny (model prog w) A (pyNext (.ref z)) Q E s := by
  obtain ⟨h1, h2, h3, h4⟩ := st
  rcases h4 with ⟨e1, x0, y0, e2⟩ | ⟨T, f, oT, e1, e2, e3⟩
  · cases t with
    | true => exact RZ.pyNext_zipT_end hh D e1 h1 e2 h2.1 h3.1 h2.2 h3.2 he q
    | false => exact wpAny_pyNext_zip_end hh D e1 h1 e2 h2.1 h3.1 h2.2 h3.2 he q
  · exact zh_end hh D e1 e2 h1 h2 h3 he fun h' r => q h' fun c o c1 _ c3 c4 e => r c o c1 c3 c4 e
end
/-- the pairs given out, by their addresses -/
structure ZG (xs ys : Array Value) (lo : Addr) (h : Heap) (as : List Addr) : Prop where
  rise : as.Pairwise (· < ·)
  above : ∀ c ∈ as, lo < c
  pairs : ∀ (j : Nat) (c : Addr), as[j]? = some c → ∃ x y, xs[j]? = some x ∧ ys[j]? = some y ∧ IsPair h c x y
theorem ZG.there {xs ys : Array Value} {lo : Addr} {h : Heap} {as : List Addr} (g : ZG xs ys lo h as) {c : Addr} (hc : c ∈ as) : c < h.objs.size := by
  obtain ⟨j, hj⟩ := List.mem_iff_getElem?.mp hc
  obtain ⟨_, _, _, _, e⟩ := g.pairs j c hj
  exact Heap.lt_size e
abbrev lsO (acc : Array Value) (c : Nat) : Obj := { cls := .type "list", dict := none, data := .seq acc c, slots := #[] }
section
variable {prog : Program} {w : World} {A : Around} {s : Shared} {R : Result → Shared → Prop}
theorem zl_loop {t : Bool} {B S z TI TO i1 i2 a b : Addr} {xs ys : Array Value} {n : Nat} (hh : A.handled = none) (D : ZipApart z TI TO i1 i2 a b) (F : ZFar z TI TO i1 i2 a b S) (b1 : B ≤ z) (b2 : B ≤ TO) (b3 : B ≤ i1) (b4 : B ≤ i2) (b5 : B ≤ S) (hx : xs.size = n) (hy : ys.size = n) (hn : n ≤ sizeLine) (res : Value) {g : Heap}
    (hR : ∀ h' tk acc c as, (∀ d o, d < B → g.get? d = some o → h'.get? d = some o) → h'.get? S = some (lsO acc c) → as.length = n → ZG xs ys S h' as → acc.toList = as.map Value.ref → R (.ok (.ret res)) { s with heap := h', toks := tk }) :
    ∀ (m k : Nat) (h : Heap) (tk c : Nat) (acc : Array Value) (as : List Addr), n - k = m → k ≤ n → ZSt t h z TI TO i1 i2 a b S k xs ys → (∀ d o, d < B → g.get? d = some o → h.get? d = some o) → h.get? S = some (lsO acc c) → acc.toList = as.map Value.ref → as.length = k → ZG xs ys S h as →
      codeAny (model prog w) A (.builtin "list.extend.loop" ⟨[.ref S, .ref z, res], []⟩) R { s with heap := h, toks := tk } := by
  have wz : ∀ c : Addr, S ≤ c → c ≠ z ∧ c ≠ TO ∧ c ≠ i1 ∧ c ≠ i2 := fun c hc => ⟨Nat.ne_of_gt (Nat.lt_of_lt_of_le F.z hc), Nat.ne_of_gt (Nat.lt_of_lt_of_le F.TO hc), Nat.ne_of_gt (Nat.lt_of_lt_of_le F.i1 hc), Nat.ne_of_gt (Nat.lt_of_lt_of_le F.i2 hc)⟩
  have wb : ∀ c : Addr, c < B → c ≠ z ∧ c ≠ TO ∧ c ≠ i1 ∧ c ≠ i2 := fun c hc => ⟨Nat.ne_of_lt (Nat.lt_of_lt_of_le hc b1), Nat.ne_of_lt (Nat.lt_of_lt_of_le hc b2), Nat.ne_of_lt (Nat.lt_of_lt_of_le hc b3), Nat.ne_of_lt (Nat.lt_of_lt_of_le hc b4)⟩
  intro m
  induction m with
  | zero =>
    intro k h tk c acc as hm hk st kp hS hacc hal G
    have ek : k = n := by omega
    refine codeAny_builtin PySem.F.entry_extend_loop ?_
    rw [Around.under_plainId PySem.F.plain_extend_loop]
    show wpAny _ A.in1 (pyNext (Value.ref z) >>= _) _ _ _
    refine wpAny_bind (zs_end (s := { s with heap := h, toks := tk }) (show A.in1.handled = none from hh) D st (.inl (by rw [ek, ← hx]; simp)) fun h' r => ?_)
    have r' : ∀ d o, S ≤ d → h.get? d = some o → h'.get? d = some o := fun d o hd e => r d o (wz d hd).1 (wz d hd).2.1 (wz d hd).2.2.1 (wz d hd).2.2.2 e
    refine wpAny_pure (hR h' tk acc c as (fun d o hd e => r d o (wb d hd).1 (wb d hd).2.1 (wb d hd).2.2.1 (wb d hd).2.2.2 (kp d o hd e)) (r' _ _ (Nat.le_refl _) hS) (by omega) ⟨G.rise, G.above, fun j d hj => ?_⟩ hacc)
    obtain ⟨x, y, e1, e2, e3⟩ := G.pairs j d hj
    exact ⟨x, y, e1, e2, r' d _ (Nat.le_of_lt (G.above d (List.mem_of_getElem? hj))) e3⟩
  | succ m ih =>
    intro k h tk c acc as hm hk st kp hS hacc hal G
    have hlt : k < n := by omega
    have hasz : acc.size = k := by rw [← Array.length_toList, hacc, List.length_map, hal]
    obtain ⟨x, ex⟩ : ∃ x, xs[k]? = some x := ⟨xs[k]'(by omega), Array.getElem?_eq_getElem (by omega)⟩
    obtain ⟨y, ey⟩ : ∃ y, ys[k]? = some y := ⟨ys[k]'(by omega), Array.getElem?_eq_getElem (by omega)⟩
    have hSl : S < h.objs.size := Heap.lt_size hS
    refine codeAny_builtin PySem.F.entry_extend_loop ?_
    rw [Around.under_plainId PySem.F.plain_extend_loop]
    show wpAny _ A.in1 (pyNext (Value.ref z) >>= _) _ _ _
    refine wpAny_bind (zs_item (s := { s with heap := h, toks := tk }) D F hSl st ex ey fun h' st' hp hsz r => ?_)
    have r' : ∀ d o, S ≤ d → h.get? d = some o → h'.get? d = some o := fun d o hd e => r d o (wz d hd).1 (wz d hd).2.1 (wz d hd).2.2.1 (wz d hd).2.2.2 e
    have hS' := r' _ _ (Nat.le_refl _) hS
    dsimp only at hp hsz ⊢
    have up : ∀ d o, d ≠ S → h'.get? d = some o → (h'.update S (Obj.mapSeq (·.push (Value.ref h.objs.size)))).get? d = some o := fun d o hd e => (Heap.get?_update_other _ _ hd.symm).trans e
    show wpAny _ A.in1 (updateSeq S (·.push (Value.ref h.objs.size)) >>= _) _ _ _
    refine wpAny_bind ?_
    refine wpAny_updateSeq hS' rfl (wpAny_pure ⟨plainId_quiet PySem.F.plain_extend_loop _, ih (k + 1) _ tk _ (acc.push (Value.ref h.objs.size)) (as ++ [h.objs.size]) (by omega) hlt (st'.keep F up)
      (fun d o hd e => up d o (Nat.ne_of_lt (Nat.lt_of_lt_of_le hd b5)) (r d o (wb d hd).1 (wb d hd).2.1 (wb d hd).2.2.1 (wb d hd).2.2.2 (kp d o hd e))) (Heap.get?_update_self _ hS' rfl) (by rw [Array.toList_push, hacc, List.map_append]; rfl) (by rw [List.length_append, hal]; rfl) ⟨?_, ?_, ?_⟩⟩) (by rw [hasz]; omega) (by show (acc.push (Value.ref h.objs.size)).size ≤ sizeLine + 1; rw [Array.size_push, hasz]; omega)
    · refine List.pairwise_append.mpr ⟨G.rise, List.pairwise_singleton _ _, fun d hd e he => ?_⟩
      rw [List.mem_singleton.mp he]
      exact G.there hd
    · intro d hd
      rcases List.mem_append.mp hd with hd | hd
      · exact G.above d hd
      · rw [List.mem_singleton.mp hd]; exact hSl
    · intro j d hj
      rcases Nat.lt_trichotomy j as.length with g1 | g1 | g1
      · rw [List.getElem?_append_left g1] at hj
        obtain ⟨x', y', e1, e2, e3⟩ := G.pairs j d hj
        have hd := G.above d (List.mem_of_getElem? hj)
        exact ⟨x', y', e1, e2, up d _ (Nat.ne_of_gt hd) (r' d _ (Nat.le_of_lt hd) e3)⟩
      · subst g1
        have hd : h.objs.size = d := by simpa using hj
        subst hd
        exact ⟨x, y, by rw [hal]; exact ex, by rw [hal]; exact ey, up _ _ (Nat.ne_of_gt hSl) hp⟩
      · have hnone : (as ++ [h.objs.size])[j]? = none := List.getElem?_eq_none (by rw [List.length_append, List.length_singleton]; omega)
        rw [hnone] at hj; cases hj
end
theorem zip_nolen : typeLookup (.type "zip") "__len__" = pure none := by rw [typeLookup_type, builtinLookup_eq_fast]; kernel_rfl
theorem zip_nohint : typeLookup (.type "zip") "__length_hint__" = pure none := by rw [typeLookup_type, builtinLookup_eq_fast]; kernel_rfl
section
variable {prog : Program} {w : World} {A : Around} {E : Value → Shared → Prop} {s : Shared} {R : Result → Shared → Prop}
theorem zl_extend {t : Bool} {B S z TI TO i1 i2 a b : Addr} {xs ys : Array Value} {n c0 : Nat} (hh : A.handled = none) (D : ZipApart z TI TO i1 i2 a b) (F : ZFar z TI TO i1 i2 a b S) (b1 : B ≤ z) (b2 : B ≤ TO) (b3 : B ≤ i1) (b4 : B ≤ i2) (b5 : B ≤ S) (hx : xs.size = n) (hy : ys.size = n) (hn : n ≤ sizeLine) (res : Value)
    (hz : IsZip s.heap z TI TO .none) (hTI : IsPair s.heap TI (.ref i1) (.ref i2)) (hTO : ∃ x y, IsPair s.heap TO x y) (st1 : ZSrc t s.heap i1 a 0 xs) (st2 : ZSrc t s.heap i2 b 0 ys) (hS : s.heap.get? S = some (lsO #[] c0))
    (hR : ∀ h' tk acc c as, (∀ d o, d < B → s.heap.get? d = some o → h'.get? d = some o) → h'.get? S = some (lsO acc c) → as.length = n → ZG xs ys S h' as → acc.toList = as.map Value.ref → R (.ok (.ret res)) { s with heap := h', toks := tk }) :
    wpAny (model prog w) A.in1 (Builtin.List.listExtendWith (.ref S) (.ref z) res) (fun fin s' => match fin with | .done f => R (.ok f) s' | .again c' => c'.quiet = true ∧ codeAny (model prog w) A c' R s') (fun e s' => R (.error e) s') s := by
  have isZ : s.TypeIs (.ref z) "zip" := ⟨_, hz, rfl⟩
  have e1 : Builtin.List.listSameRef (.ref S) (.ref z) = false := by simp [Builtin.List.listSameRef, Nat.ne_of_gt F.z]
  have e2 : (Value.type "zip" == Value.type "list") = false := by decide
  have e3 : (Value.type "zip" == Value.type "tuple") = false := by decide
  have st : ZSt t s.heap z TI TO i1 i2 a b S 0 xs ys := ⟨hTI, st1, st2, .inl ⟨hz, hTO⟩⟩
  unfold Builtin.List.listExtendWith
  refine wpAny_bind (wpAny_typeOf isZ ?_)
  simp only [e1, e2, e3, Bool.false_eq_true, Bool.or_false, if_false]
  refine wpAny_bind (wpAny_pyIter_zip hz ?_)
  refine wpAny_bind (wpAny_holding ?_)
  unfold Builtin.List.listLengthHint
  refine wpAny_bind (wpAny_specialOf isZ zip_nolen ?_)
  show wpAny _ A.in1 (specialOf (Value.ref z) (Str.ofString "__length_hint__") >>= _) _ _ s
  refine wpAny_bind (wpAny_specialOf isZ zip_nohint ?_)
  refine wpAny_pure ?_
  show wpAny _ A.in1 (rule "list.extend.makes-room" >>= fun _ => Builtin.List.listTouch (Value.ref S) >>= fun _ => again (.builtin "list.extend.loop" ⟨[.ref S, .ref z, res], []⟩)) _ _ s
  refine wpAny_bind (wpAny_rule (wpAny_bind ?_))
  show wpAny _ A.in1 (updateSeq S (·.push Value.none) >>= fun _ => updateSeq S (·.pop)) _ _ s
  refine wpAny_bind (wpAny_updateSeq hS rfl ?_)
  have hS2 := Heap.get?_update_self (Obj.mapSeq (·.push Value.none)) hS rfl
  refine wpAny_updateSeq hS2 rfl ?_
  have hS3 := Heap.get?_update_self (Obj.mapSeq (·.pop)) hS2 rfl
  have oth : ∀ d o, d ≠ S → s.heap.get? d = some o → ((s.heap.update S (Obj.mapSeq (·.push Value.none))).update S (Obj.mapSeq (·.pop))).get? d = some o := fun d o hd e => (Heap.get?_update_other _ _ hd.symm).trans ((Heap.get?_update_other _ _ hd.symm).trans e)
  exact wpAny_pure ⟨plainId_quiet PySem.F.plain_extend_loop _, zl_loop hh D F b1 b2 b3 b4 b5 hx hy hn res hR n 0 _ s.toks _ _ [] (Nat.sub_zero _) (Nat.zero_le _) (st.keep F oth) (fun d o hd e => oth d o (Nat.ne_of_lt (Nat.lt_of_lt_of_le hd b5)) e) hS3 rfl rfl ⟨List.Pairwise.nil, (fun _ hc => nomatch hc), fun j c hj => by simp at hj⟩⟩
end
end VL
set_option Elab.async false
set_option linter.all false
set_option maxRecDepth 100000
set_option maxHeartbeats 4000000
/-! VL79: list(zip(a, b)) over values -/
namespace VL
open PySem PySem.Spec PyProof.Rows L2
def pairObj (u v : Value) : Obj := { cls := .type "tuple", data := .seq #[u, v] }
/-- the new list and its pairs, tracked -/
def zlay (H : Hp) (S : Addr) (as : List Addr) (xs ys : List V) (us vs : List Value) : Hp := fun c =>
  if c = S then some (.lst (as.map V.ref)) else if c ∈ as then some (HO.th (pairObj (us.getD (as.idxOf c) .none) (vs.getD (as.idxOf c) .none)) [xs.getD (as.idxOf c) .non, ys.getD (as.idxOf c) .non]) else H c
theorem idx_nd {as : List Addr} (nd : as.Nodup) {j : Nat} {c : Addr} (h : as[j]? = some c) : as.idxOf c = j := by
  obtain ⟨hj, e⟩ := List.getElem?_eq_some_iff.mp h
  rw [← e]
  exact List.Nodup.idxOf_getElem nd j hj
section
variable {X : Cx}
theorem zl_laid {pins : List (Addr × Obj)} {σ : L2.St} {H : Hp} {s : Shared} {h' : Heap} {tk : Nat} {xs ys : List V} {us vs : List Value} {acc : Array Value} {c : Nat} {as : List Addr} {S : Addr} (hSs : s.heap.objs.size ≤ S) (I : Inv X pins σ H s) (rx : Vals xs us) (ry : Vals ys vs) (hxy : xs.length = ys.length) (hz : xs.length ≤ sizeLine)
    (hk : ∀ b o, s.heap.get? b = some o → h'.get? b = some o) (hS : h'.get? S = some (lsO acc c)) (hl : as.length = us.length) (G : ZG us.toArray vs.toArray S h' as) (hacc : acc.toList = as.map Value.ref) :
    ∃ H' : Hp, (∀ b o, H b = some o → H' b = some o) ∧ H S = none ∧ (∀ t ∈ as, H t = none) ∧ S ∉ as ∧ H' S = some (.lst (as.map V.ref)) ∧
      (∀ (j : Nat) (t : Addr) (x y : V), as[j]? = some t → xs[j]? = some x → ys[j]? = some y → ∃ o : Obj, o.dict = none ∧ H' t = some (HO.th o [x, y])) ∧ Inv X pins σ H' { s with heap := h', toks := tk } := by
  have lx := rx.length
  have ly := ry.length
  have hSn : S ∉ as := fun z => Nat.lt_irrefl _ (G.above _ z)
  have nd : as.Nodup := List.Pairwise.imp (fun {a b} (h : a < b) => Nat.ne_of_lt h) G.rise
  have new : ∀ t ∈ as, H t = none := fun t ht => I.hok.fresh (Nat.le_trans hSs (Nat.le_of_lt (G.above t ht)))
  have newS : H S = none := I.hok.fresh hSs
  have eS : zlay H S as xs ys us vs S = some (.lst (as.map V.ref)) := by unfold zlay; rw [if_pos rfl]
  have off : ∀ b, b ∉ as → b ≠ S → zlay H S as xs ys us vs b = H b := fun b h1 h2 => by unfold zlay; rw [if_neg h2, if_neg h1]
  have low : ∀ b o, s.heap.get? b = some o → b ∉ as ∧ b ≠ S := fun b o e => ⟨fun z => absurd (Heap.lt_size e) (Nat.not_lt.mpr (Nat.le_trans hSs (Nat.le_of_lt (G.above b z)))), Nat.ne_of_lt (Nat.lt_of_lt_of_le (Heap.lt_size e) hSs)⟩
  have kp : ∀ b u, H b = some u → zlay H S as xs ys us vs b = some u := fun b u e => by
    rw [off b (fun z => by rw [new b z] at e; cases e) (fun z => by rw [z, newS] at e; cases e)]
    exact e
  have atP : ∀ (j : Nat) (t : Addr), as[j]? = some t → zlay H S as xs ys us vs t = some (HO.th (pairObj (us.getD j .none) (vs.getD j .none)) [xs.getD j .non, ys.getD j .non]) := fun j t e => by
    have hm : t ∈ as := List.mem_of_getElem? e
    unfold zlay
    rw [if_neg (fun z : t = S => hSn (by rw [← z]; exact hm)), if_pos hm, idx_nd nd e]
  refine ⟨zlay H S as xs ys us vs, kp, newS, new, hSn, eS, fun j t x y e1 e2 e3 => ⟨pairObj (us.getD j .none) (vs.getD j .none), rfl, ?_⟩, ?_⟩
  · rw [atP j t e1]
    simp [e2, e3]
  · refine I.call' (ch := []) rfl ⟨fun b o q _ _ _ => hk b o q, fun b o q _ _ _ => ⟨o.slots, hk b o q⟩, fun b o q n _ => ?_, fun b o q _ => ⟨o, hk b o q⟩, fun b _ q => kp b _ q, fun b _ _ q => kp b _ q, fun b _ q => ⟨#[], by rw [kp b _ q]; simp⟩⟩ (fun b u q => ?_) I.bare fun b z => by simp at z
    · obtain ⟨z1, z2⟩ := low b o q
      rw [off b z1 z2]; exact n
    · by_cases hb : b ∈ as
      · obtain ⟨j, e1⟩ := List.mem_iff_getElem?.mp hb
        rw [atP j b e1] at q
        cases q
        obtain ⟨x, y, f1, f2, f3⟩ := G.pairs j b e1
        have f1' : us[j]? = some x := by simpa using f1
        have f2' : vs[j]? = some y := by simpa using f2
        have hj : j < us.length := (List.getElem?_eq_some_iff.mp f1').1
        obtain ⟨u1, g1, r1⟩ := rx.get (i := j) (x := xs[j]'(by omega)) (List.getElem?_eq_getElem (by omega))
        obtain ⟨u2, g2, r2⟩ := ry.get (i := j) (x := ys[j]'(by omega)) (List.getElem?_eq_getElem (by omega))
        rw [f1'] at g1; cases g1
        rw [f2'] at g2; cases g2
        have ex : xs.getD j .non = xs[j]'(by omega) := by simp [show j < xs.length by omega]
        have ey : ys.getD j .non = ys[j]'(by omega) := by simp [show j < ys.length by omega]
        have eo : pairObj (us.getD j .none) (vs.getD j .none) = pairObj x y := by simp [f1', f2']
        rw [ex, ey, eo]
        exact ⟨f3, by show 2 ≤ sizeLine; decide, [x, y], .cons r1 (.cons r2 .nil), ⟨_, f3, rfl, _, rfl⟩⟩
      · by_cases hb2 : b = S
        · rw [hb2] at q ⊢
          rw [eS] at q
          cases q
          refine ⟨by rw [List.length_map]; omega, acc.toList, c, by rw [hacc]; exact LiI.vals_refs as, ?_⟩
          rw [Array.toArray_toList]
          exact hS
        · rw [off b hb hb2] at q
          exact (I.hok b u q).stay (fun d v _ y => hk d v y) (fun d y => kp d _ y) fun d _ y => kp d _ y
end
/-! ### over values -/
@[simp] def gLstZ : List D → (D → Prop) → Prop
  | [.py (.list xs), .py (.list ys)], Q => xs.length = ys.length ∧ Q (.py (.list (zip2P xs ys)))
  | [.py (.tuple xs), .py (.tuple ys)], Q => xs.length = ys.length ∧ Q (.py (.list (zip2P xs ys)))
  | _, _ => False
theorem rqs_zip {Z : Addr → Prop} {H : Hp} : ∀ {ts : List Addr} {xs ys : List V} {dxs dys : List PyData}, ts.length = xs.length → xs.length = ys.length → Rqs Z H xs dxs → Rqs Z H ys dys → (∀ t ∈ ts, ¬ Z t) →
    (∀ (j : Nat) (t : Addr) (x y : V), ts[j]? = some t → xs[j]? = some x → ys[j]? = some y → ∃ o : Obj, o.dict = none ∧ H t = some (HO.th o [x, y])) → Rqs Z H (ts.map V.ref) (zip2P dxs dys)
  | [], [], [], _, _, _, _, .nil, .nil, _, _ => .nil
  | t :: ts, x :: xs, y :: ys, _, _, h1, h2, .cons r1 t1, .cons r2 t2, hz, h => by
    obtain ⟨o, ho, e⟩ := h 0 t x y rfl rfl rfl
    refine .cons (.tup e ho (hz t List.mem_cons_self) (.cons r1 (.cons r2 .nil))) ?_
    exact rqs_zip (by simpa using h1) (by simpa using h2) t1 t2 (fun t' ht => hz t' (List.mem_cons_of_mem _ ht)) fun j t' x' y' e1 e2 e3 => h (j + 1) t' x' y' (by simpa using e1) (by simpa using e2) (by simpa using e3)
end VL
set_option Elab.async false
set_option linter.all false
set_option maxRecDepth 100000
set_option maxHeartbeats 4000000
/-! VL80: a comprehension over a dict that stands still meanwhile -/
namespace VL
open PySem PySem.Spec PyProof.Rows L2
end VL
set_option Elab.async false
set_option linter.all false
set_option maxRecDepth 100000
set_option maxHeartbeats 4000000
/-! VL81: [.. for k, v in d.items()], [.. for k in d], d a shared dict of plain values -/
namespace VL
open PySem PySem.Spec PyProof.Rows L2
@[simp] def leafB : PyData → Bool
  | .list _ => false
  | .tuple _ => false
  | .dict _ => false
  | _ => true
/-- a dict that is locked -/
def dF (ds : List (PyData × PyData)) : Abs where
  R := fun Z H a => ∃ o kvs, H a = some (.frz o (.dK kvs)) ∧ Rqk Z H kvs ds ∧ ∀ p ∈ ds, leafB p.2 = true
  at_ := fun ⟨o, kvs, h, _⟩ => ⟨_, h⟩
  noext := fun ⟨o, kvs, h, _⟩ u hu e => by rw [h] at e; cases e; exact hu
  mono := fun hz hs ha ⟨o, kvs, h, r, l⟩ => ⟨o, kvs, ha _ h, r.mono hz hs, l⟩
def itemsP (ds : List (PyData × PyData)) : List PyData := ds.map fun p => .tuple [p.1, p.2]
@[simp] def iIt (j : Nat) : VIt := fun ρ Q _ => ∃ ds, ρ[j]? = some (.shr (.abs (dF ds))) ∧ Q ((itemsP ds).map D.py)
@[simp] def iKy (j : Nat) : VIt := fun ρ Q _ => ∃ ds, ρ[j]? = some (.shr (.abs (dF ds))) ∧ Q ((ds.map fun p => p.1).map D.py)
section
variable {b : Bg} {Y Z : Addr → Prop} {H : Hp} {d : Addr} {o : Obj} {kvs : List (Key × V)} {ds : List (PyData × PyData)}
end
section
variable {X : Cx} {b : Bg} {W : WX} {e f : Expr} {j : Nat} {ty : VT} {ap cp tp pos : Pos} {tgs : List Expr} {n0 : Nat} {tg : Expr}
/-- d[k] of the locked dict -/
@[simp] def vDIxF (j : Nat) (ty : VT) : VT := fun ρ Q E => ∃ ds, ρ[j]? = some (.shr (.abs (dF ds))) ∧ ty ρ (fun y => ∃ k kk x, y = .py k ∧ keyOf k = some kk ∧ getD ds kk = some x ∧ Q (.py x)) E
end
end VL
set_option Elab.async false
set_option linter.all false
set_option maxRecDepth 100000
set_option maxHeartbeats 4000000
/-! VL82: a dict is locked while an expression that makes something new is evaluated -/
namespace VL
open PySem PySem.Spec PyProof.Rows L2
@[simp] def flatS : Slot → Slot
  | .shr (.py p) => if leafB p = true then .shr (.py p) else .un
  | .shr (.raw v) => .shr (.raw v)
  | _ => .un
@[simp] def flatE (ds : List (PyData × PyData)) : Nat → VEnv → VEnv
  | _, [] => []
  | 0, _ :: r => .shr (.abs (dF ds)) :: r.map flatS
  | j + 1, s :: r => flatS s :: flatE ds j r
section
variable {Z : Addr → Prop} {H : Hp} {d : Addr} {od : Obj} {kvs : List (Key × V)} {u : HO}
end
@[simp] def vLock (j : Nat) (t : VT) : VT := fun ρ Q _ => ∃ ds, ρ[j]? = some (.shr (.py (.dict ds))) ∧ (∀ p ∈ ds, leafB p.2 = true) ∧ t (flatE ds j ρ) (fun d => (∃ xs, d = .py (.list xs)) ∧ Q d) noE
end VL
set_option Elab.async false
set_option linter.all false
set_option maxRecDepth 100000
set_option maxHeartbeats 4000000
/-! VL83: two fields set from a pair; a dict of one number; a range that counts down -/
namespace VL
open PySem PySem.Spec PyProof.Rows L2
section
variable {X : Cx} {b : Bg} {W : WX} {e o o2 : Expr} {n f1 f2 : Str} {t : VT} {pos : Pos} {i : Nat}
@[simp] def sFld2 (i : Nat) (n f1 f2 : Str) (t : VT) : VS := fun ρ De => t ρ (fun d => ∃ p1 p2 a fs, d = .py (.tuple [p1, p2]) ∧ ρ[i]? = some (.own (.obj a n fs)) ∧ fs.length + 1 < 1000 ∧ De.nx (ρ.set i (.own (.obj a n (putFD f2 p2 (putFD f1 p1 fs)))))) (De.ex ρ)
end
/-! ### a dict of one number -/
@[simp] def vDI (t : VT) (j : Int) : VT := fun ρ Q E => t ρ (fun d => ∃ i, d = .py (.int i) ∧ Q (.py (.dict [(.int i, .int j)]))) E
/-! ### range(i, j, -1) -/
def rangeD (i : Int) (n : Nat) : List PyData := (List.range n).map fun (k : Nat) => PyData.int (i - k)
@[simp] def asR3 : List D → (List D → Prop) → Prop
  | [.py (.int i), .py (.int j), .py (.int k)], Q => k = -1 ∧ (small62 i ∧ small62 j) ∧ Q ((rangeD i (i - j).toNat).map D.py)
  | _, _ => False
@[simp] def iR3 (t : VA) : VIt := fun ρ Q E => t ρ (fun d => asR3 d Q) E
section
variable {X : Cx} {b : Bg} {W : WX} {tg e1 e2 e3 : Expr} {ta : VA} {p pos : Pos} {Y Z : Addr → Prop} {H : Hp}
end
end VL
set_option Elab.async false
set_option linter.all false
set_option maxRecDepth 100000
set_option maxHeartbeats 4000000
/-! VL84: list(d.values()) -/
namespace VL
open PySem PySem.Spec PyProof.Rows L2
@[simp] def gVals : D → (D → Prop) → Prop
  | .py (.dict ds), Q => Q (.py (.list (ds.map (·.2))))
  | _, _ => False
end VL
set_option Elab.async false
set_option linter.all false
set_option maxRecDepth 100000
set_option maxHeartbeats 4000000
/-! VL85: sorted(d.items()), numbers for keys and values -/
namespace VL
open PySem PySem.Spec PyProof.Rows L2
section
variable {prog : Program} {w : World} {A : Around} {s : Shared} {E : Value → Shared → Prop}
def prV (p : Int × Int) : List Int := [p.1, p.2]
end
section
variable {X : Cx}
end
/-! ### over values -/
@[simp] def gSrtIt : D → (D → Prop) → Prop
  | .py (.dict ds), Q => ∃ L : List (Int × Int), ds = L.map (fun p => (PyData.int p.1, PyData.int p.2)) ∧ L ≠ [] ∧ Q (.py (.list ((sortT (L.map prV)).map fun l => PyData.tuple (l.map PyData.int))))
  | _, _ => False
end VL
set_option Elab.async false
set_option linter.all false
set_option maxRecDepth 100000
set_option maxHeartbeats 4000000
/-! VL86: list(d.items()), numbers for keys and values -/
namespace VL
open PySem PySem.Spec PyProof.Rows L2
section
variable {X : Cx}
end
@[simp] def gLstIt : D → (D → Prop) → Prop
  | .py (.dict ds), Q => ∃ L : List (Int × Int), ds = L.map (fun p => (PyData.int p.1, PyData.int p.2)) ∧ Q (.py (.list ((L.map prV).map fun l => PyData.tuple (l.map PyData.int))))
  | _, _ => False
end VL
set_option Elab.async false
set_option linter.all false
set_option maxRecDepth 100000
set_option maxHeartbeats 4000000
/-! VL87: sorted(set(xs)), xs a list of allI0 -/
namespace VL
open PySem PySem.Spec PyProof.Rows L2
section
variable {P : Program} {w : World} {A : Around} {E : Value → Shared → Prop} {s : Shared}
end
section
variable {X : Cx}
end
@[simp] def vSortSetL (t : VT) : VT := fun ρ Q E => t ρ (fun d => ∃ xs ns, d = .py (.list xs) ∧ allI xs = some ns ∧ ns.length < 63 ∧ ∀ ks : List Int, ks.Pairwise (· < ·) → (∀ j, j ∈ ks ↔ j ∈ ns) → Q (.py (.list (ks.map PyData.int)))) E
end VL
set_option Elab.async false
set_option linter.all false
set_option maxRecDepth 100000
set_option maxHeartbeats 4000000
/-! VL88: x in d, x not in d, d a dict -/
namespace VL
open PySem PySem.Spec PyProof.Rows L2
section
variable {X : Cx} {b : Bg} {W : WX} {e1 e2 : Expr} {t1 t2 : VT} {pos : Pos}
@[simp] def gInDk (neg : Bool) : D → D → (D → Prop) → Prop
  | .py k, .py (.dict ds), Q => ∃ kk, VL.keyOf k = some kk ∧ Q (.py (.bool (neg ^^ (getD ds kk).isSome)))
  | _, _, _ => False
end
end VL
set_option Elab.async false
set_option linter.all false
set_option maxRecDepth 100000
set_option maxHeartbeats 4000000
/-! VL89: a def under another global name -/
namespace VL
open PySem PySem.Spec PyProof.Rows L2
end VL
set_option Elab.async false
set_option linter.all false
set_option maxRecDepth 100000
set_option maxHeartbeats 4000000
/-! VL90: zip of any number of tuples of one length, at the machine's level -/
namespace VL
open PySem PySem.Spec PyProof.Rows L2
section
variable {M : Model} {A : Around} {E : Value → Shared → Prop}
end
section
variable {prog : Program} {w : World} {A : Around} {E : Value → Shared → Prop} {s : Shared} {z TI TO : Addr} {its ls : List Addr} {cols : List (List Value)} {k : Nat}
end
end VL
set_option Elab.async false
set_option linter.all false
set_option maxRecDepth 100000
set_option maxHeartbeats 4000000
/-! VL91: zip(e, *e2) as what a comprehension walks -/
namespace VL
open PySem PySem.Spec PyProof.Rows L2
section
variable {prog : Program} {w : World} {A : Around} {E : Value → Shared → Prop} {s : Shared} {ls : List Addr} {cols : List (List Value)}
end
end VL
set_option Elab.async false
set_option linter.all false
set_option maxRecDepth 100000
set_option maxHeartbeats 4000000
/-! VL92: for x in zip(e, *e2), the sources being tuples of one length -/
namespace VL
open PySem PySem.Spec PyProof.Rows L2 StX
section
variable {X : Cx} {b : Bg} {W : WX} {e : Expr} {es : List Expr} {x : Str} {p q pos : Pos}
/-! ### over data -/
def zipNP (m : Nat) (cols : List (List PyData)) : List PyData := (List.range m).map fun i => .tuple (cols.map fun c => c.getD i .none)
@[simp] def asZN (ds : List D) (Q : List D → Prop) : Prop := ∃ (cols : List (List PyData)) (m : Nat), ds = cols.map (fun c => D.py (.tuple c)) ∧ 1 ≤ cols.length ∧ cols.length ≤ 6 ∧ (∀ c ∈ cols, c.length = m) ∧ Q ((zipNP m cols).map D.py)
@[simp] def iZN (t : VA) : VIt := fun ρ Q E => t ρ (fun d => asZN d Q) E
end
end VL
set_option Elab.async false
set_option linter.all false
set_option maxRecDepth 100000
set_option maxHeartbeats 4000000
/-! VL93: list(zip(a, b, c)) of up to six tuples of one length -/
namespace VL
open PySem PySem.Spec PyProof.Rows L2
section
variable {prog : Program} {w : World} {A : Around} {s : Shared} {R : Result → Shared → Prop}
end
section
variable {prog : Program} {w : World} {A : Around} {E : Value → Shared → Prop} {s : Shared} {R : Result → Shared → Prop}
end
section
variable {X : Cx}
end
/-! ### over values -/
@[simp] def gLstZN (ds : List D) (Q : D → Prop) : Prop := ∃ (cols : List (List PyData)) (m : Nat), ds = cols.map (fun c => D.py (.tuple c)) ∧ 1 ≤ cols.length ∧ cols.length ≤ 6 ∧ (∀ c ∈ cols, c.length = m) ∧ Q (.py (.list (zipNP m cols)))
end VL
set_option Elab.async false
set_option linter.all false
set_option maxRecDepth 100000
set_option maxHeartbeats 4000000
/-! VL94: min, max of two texts; a <= b <= c <= d of texts -/
namespace VL
open PySem PySem.Spec PySem.Calls PyProof.Rows L2
section
variable {X : Cx}
end
@[simp] def gMaxS : List D → (D → Prop) → Prop
  | [.py (.str i), .py (.str j)], Q => Q (.py (.str (if ltT i j then j else i)))
  | _, _ => False
@[simp] def gMinS : List D → (D → Prop) → Prop
  | [.py (.str i), .py (.str j)], Q => Q (.py (.str (if ltT j i then j else i)))
  | _, _ => False
@[simp] def gLeSt : D → D → (D → Prop) → Prop
  | .py (.str i), .py (.str j), Q => Q (.py (.bool (!ltT j i)))
  | _, _, _ => False
section
variable {b : Bg}
end
/-! ### chains of three comparisons -/
section
variable {X : Cx} {a b c d : Expr} {ta tb tc td : TE} {pos : Pos}
end
@[simp] def vChain3 (g g' g'' : D → D → (D → Prop) → Prop) (ta tb tc td : VT) : VT := fun ρ Q E => ta ρ (fun x => tb ρ (fun y => g x y fun z => ∃ k, z = .py (.bool k) ∧ if k = true then tc ρ (fun w => g' y w fun z => ∃ k, z = .py (.bool k) ∧ if k = true then td ρ (fun v => g'' w v Q) E else Q (.py (.bool false))) E else Q (.py (.bool false))) E) E
section
variable {X : Cx} {b : Bg} {W : WX} {e e1 e2 e3 e4 : Expr} {t1 t2 t3 t4 : VT} {es : List Expr} {u : VA} {p pos : Pos} {r r' r'' : R2} {g g' g'' : D → D → (D → Prop) → Prop}
end
end VL
set_option Elab.async false
set_option linter.all false
set_option maxRecDepth 100000
set_option maxHeartbeats 4000000
/-! VL95: sorted(set(t)), t a tuple of texts, all unlike -/
namespace VL
open PySem PySem.Spec PyProof.Rows L2 PySem.Froz
section
variable {P : Program} {w : World} {A : Around} {E : Value → Shared → Prop} {s : Shared}
end
end VL
set_option Elab.async false
set_option linter.all false
set_option maxRecDepth 100000
set_option maxHeartbeats 4000000
/-! VL96: sorted(set(t)), t a tuple of texts, over values -/
namespace VL
open PySem PySem.Spec PyProof.Rows L2 PySem.Froz
section
variable {X : Cx}
end
@[simp] def vSortSetX (t : VT) : VT := fun ρ Q E => t ρ (fun d => ∃ ns : List Str, d = .py (.tuple (ns.map PyData.str)) ∧ ns.Nodup ∧ ns.length < 4000 ∧ Q (.py (.list ((sortSt ns).map PyData.str)))) E
section
variable {X : Cx} {a b c d : Expr} {ta tb tc td : TE} {pos : Pos}
end
section
variable {X : Cx} {b : Bg} {W : WX} {e1 e2 e3 e4 : Expr} {t1 t2 t3 t4 : VT} {pos : Pos}
end
end VL
set_option Elab.async false
set_option linter.all false
set_option maxRecDepth 100000
set_option maxHeartbeats 4000000
namespace VL
open PySem PySem.Spec PyProof.Rows L2
/-! ### several targets, some of them items of owned lists -/
section
variable {X : Cx} {b : Bg} {W : WX} {e e1 e2 : Expr} {es : List Expr} {st : Stmt} {t t1 t2 : VT} {u : VA} {pos pos' : Pos} {i : Nat} {x : Str}
/-- an item of an owned list -/
@[simp] def tgSto (i : Nat) (ty : VT) : VTg := fun d ρ Q => ∃ xs, ρ[i]? = some (.own (.py (.list xs))) ∧ ∃ p, d = .py p ∧ ty ρ (fun y => ∃ k, y = .py (.int k) ∧ ∃ ys, setAt xs k p = some ys ∧ Q (ρ.set i (.own (.py (.list ys))))) fun _ => False
/-- t1, t2 = e1, e2 by way of a tuple -/
@[simp] def sParM (n : Nat) (u : VA) (g : VTgs) : VS := fun ρ De => u ρ (fun ds => ds.length = n ∧ g ds ρ De.nx) (De.ex ρ)
/-! ### a list, from an item on, with a step -/
def stepL {α : Type} (xs : List α) (lo st : Int) : List α := (sliceRange (sliceBounds (some lo) none (some st) xs.length).1 (sliceBounds (some lo) none (some st) xs.length).2.1 (sliceBounds (some lo) none (some st) xs.length).2.2).filterMap (xs[·]?)
@[simp] def vStp (t : VT) (tl ts : VO) : VT := fun ρ Q E => t ρ (fun x => tl ρ (fun l => ts ρ (fun k => ∃ xs lo st, x = .py (.list xs) ∧ l = some lo ∧ k = some st ∧ st ≠ 0 ∧ Q (.py (.list (stepL xs lo st)))) E) E) E
end
end VL
set_option Elab.async false
set_option linter.all false
set_option maxRecDepth 100000
set_option maxHeartbeats 4000000
/-! VL98: the stairs of demands: two lists in the fields of an object, changed while it is made -/
namespace VL
open PySem PySem.Spec PyProof.Rows L2
abbrev Dm := Bool × Nat × Nat
def dmP (d : Dm) : PyData := .tuple [.str (if d.1 = true then "late" else "soon"), .int (d.2.1 : Nat), .int (d.2.2 : Nat)]
abbrev stepD (ps : List Int) (s : List Int × List Int) (d : Dm) : List Int × List Int :=
  if d.1 = true then (s.1.set d.2.1 (if ps.getD d.2.2 0 + 1 > s.1.getD d.2.1 0 then ps.getD d.2.2 0 + 1 else s.1.getD d.2.1 0), s.2)
  else (s.1, s.2.set d.2.1 (if ps.getD d.2.2 0 < s.2.getD d.2.1 0 then ps.getD d.2.2 0 else s.2.getD d.2.1 0))
def dmS (ps : List Int) (dm : List Dm) : List Int × List Int := dm.foldl (stepD ps) (List.replicate ps.length 0, (List.range ps.length).map fun (k : Nat) => (k : Int))
abbrev stepU (ls : List Int) (i : Nat) : List Int := ls.set (i + 1) (if ls.getD i 0 > ls.getD (i + 1) 0 then ls.getD i 0 else ls.getD (i + 1) 0)
def upL (ls : List Int) (m : Nat) : List Int := (List.range m).foldl stepU ls
abbrev stepN (n : Nat) (hs : List Int) (i : Nat) : List Int := hs.set (n - 2 - i) (if hs.getD (n - 2 - i + 1) 0 < hs.getD (n - 2 - i) 0 then hs.getD (n - 2 - i + 1) 0 else hs.getD (n - 2 - i) 0)
def dnL (n : Nat) (hs : List Int) (m : Nat) : List Int := (List.range m).foldl (stepN n) hs
def lowC (ps : List Int) (dm : List Dm) : List Int := upL (dmS ps dm).1 (ps.length - 1)
def highC (ps : List Int) (dm : List Dm) : List Int := dnL ps.length (dmS ps dm).2 (ps.length - 1)
def stairF (ps : List Int) (dm : List Dm) : List (Str × PyData) := [("places", .list (ps.map PyData.int)), ("low", .list ((lowC ps dm).map PyData.int)), ("high", .list ((highC ps dm).map PyData.int))]
def S_stairsR : SI := fun ds Q _ => ∃ (ps : List Int) (dm : List Dm), ds = [.py (.list (ps.map PyData.int)), .py (.list (dm.map dmP))] ∧ 0 < ps.length ∧ ps.length ≤ 1000 ∧ (∀ d ∈ dm, d.2.1 < ps.length ∧ d.2.2 < ps.length) ∧ Q (stairF ps dm)
theorem stepD_len {ps : List Int} {s : List Int × List Int} {d : Dm} : (stepD ps s d).1.length = s.1.length ∧ (stepD ps s d).2.length = s.2.length := by
  unfold stepD
  split <;> simp
theorem fold_len {ps : List Int} : ∀ {dm : List Dm} {s : List Int × List Int}, (dm.foldl (stepD ps) s).1.length = s.1.length ∧ (dm.foldl (stepD ps) s).2.length = s.2.length
  | [], _ => ⟨rfl, rfl⟩
  | d :: dm, s => by
    rw [List.foldl_cons]
    have h1 := fold_len (ps := ps) (dm := dm) (s := stepD ps s d)
    have h2 := stepD_len (ps := ps) (s := s) (d := d)
    exact ⟨h1.1.trans h2.1, h1.2.trans h2.2⟩
theorem dmS_len {ps : List Int} {dm : List Dm} : (dmS ps dm).1.length = ps.length ∧ (dmS ps dm).2.length = ps.length := by
  have := fold_len (ps := ps) (dm := dm) (s := (List.replicate ps.length 0, (List.range ps.length).map fun (k : Nat) => (k : Int)))
  simpa [dmS] using this
theorem dmS_snoc {ps : List Int} {dm : List Dm} {d : Dm} : dmS ps (dm ++ [d]) = stepD ps (dmS ps dm) d := by unfold dmS; rw [List.foldl_append]; rfl
theorem upL_len {ls : List Int} : ∀ m, (upL ls m).length = ls.length
  | 0 => rfl
  | m + 1 => by unfold upL; rw [List.range_succ, List.foldl_append]; show (List.set _ _ _).length = _; rw [List.length_set]; exact upL_len m
theorem upL_succ {ls : List Int} {m : Nat} : upL ls (m + 1) = stepU (upL ls m) m := by unfold upL; rw [List.range_succ, List.foldl_append]; rfl
theorem dnL_len {n : Nat} {ls : List Int} : ∀ m, (dnL n ls m).length = ls.length
  | 0 => rfl
  | m + 1 => by unfold dnL; rw [List.range_succ, List.foldl_append]; show (List.set _ _ _).length = _; rw [List.length_set]; exact dnL_len m
theorem dnL_succ {n : Nat} {ls : List Int} {m : Nat} : dnL n ls (m + 1) = stepN n (dnL n ls m) m := by unfold dnL; rw [List.range_succ, List.foldl_append]; rfl
/-- an item of a list of ints -/
theorem ixN_n {n j : Nat} (hj : j < n) : ixN n (j : Int) = some j := by
  unfold ixN
  simp
  omega
theorem at_ints {ls : List Int} {k : Nat} (h : k < ls.length) : atI (ls.map V.int) (k : Int) = some (.int (ls.getD k 0)) := by
  unfold atI
  rw [ixN_n (by simpa using h)]
  simp [h]
theorem ix_ints {ls : List Int} {k : Nat} (h : k < ls.length) : ixN (ls.map V.int).length (k : Int) = some k := ixN_n (by simpa using h)
/-! the heap while the object is made -/
structure StB (H : Hp) (x C dx : Addr) (fs : List (Str × V)) (H' : Hp) : Prop where
  at_ : H' x = some (.ins C dx fs)
  keep : ∀ a o, H a = some o → a ≠ x → H' a = some o
section
variable {H H' : Hp} {x C dx l1 l2 a1 : Addr} {fs fs' : List (Str × V)} {ls hs : List Int}
theorem StB.new (b : StB H x C dx fs H') {p : Addr} {o : HO} (h : H' p = none) : StB H x C dx fs (upd H' p o) :=
  ⟨by rw [upd_ne (ne_of_none b.at_ h)]; exact b.at_, fun a u e n => by rw [upd_ne (ne_of_none (b.keep a u e n) h)]; exact b.keep a u e n⟩
theorem StB.fld (b : StB H x C dx fs H') : StB H x C dx fs' (upd H' x (.ins C dx fs')) := ⟨upd_same, fun a u e n => by rw [upd_ne n]; exact b.keep a u e n⟩
structure StL (H : Hp) (x C dx a1 l1 l2 : Addr) (ls hs : List Int) (H' : Hp) : Prop where
  b : StB H x C dx [("places", .ref a1), ("low", .ref l1), ("high", .ref l2)] H'
  low : H' l1 = some (.lst (ls.map V.int))
  high : H' l2 = some (.lst (hs.map V.int))
  n1 : H l1 = none
  n2 : H l2 = none
  ne : l1 ≠ l2
  x1 : l1 ≠ x
  x2 : l2 ≠ x
theorem StL.setLow (s : StL H x C dx a1 l1 l2 ls hs H') (ls' : List Int) : StL H x C dx a1 l1 l2 ls' hs (upd H' l1 (.lst (ls'.map V.int))) :=
  ⟨⟨by rw [upd_ne s.x1.symm]; exact s.b.at_, fun a u e n => by rw [upd_ne (fun z => by rw [z, s.n1] at e; cases e)]; exact s.b.keep a u e n⟩, upd_same, by rw [upd_ne s.ne.symm]; exact s.high, s.n1, s.n2, s.ne, s.x1, s.x2⟩
theorem StL.setHigh (s : StL H x C dx a1 l1 l2 ls hs H') (hs' : List Int) : StL H x C dx a1 l1 l2 ls hs' (upd H' l2 (.lst (hs'.map V.int))) :=
  ⟨⟨by rw [upd_ne s.x2.symm]; exact s.b.at_, fun a u e n => by rw [upd_ne (fun z => by rw [z, s.n2] at e; cases e)]; exact s.b.keep a u e n⟩, by rw [upd_ne s.ne]; exact s.low, upd_same, s.n1, s.n2, s.ne, s.x1, s.x2⟩
end
/-- a demand as it lies -/
theorem dm_at {Z : Addr → Prop} {H : Hp} {ws : List V} {dm : List Dm} {i : Nat} {v : V} (r : Rqs Z H ws (dm.map dmP)) (h : ws[i]? = some v) :
    ∃ d t o, dm[i]? = some d ∧ v = .ref t ∧ H t = some (HO.th o [.str (if d.1 = true then "late" else "soon"), .int (d.2.1 : Nat), .int (d.2.2 : Nat)]) := by
  obtain ⟨p, hp, rp⟩ := r.get' h
  rw [List.getElem?_map] at hp
  cases e : dm[i]? with
  | none => rw [e] at hp; cases hp
  | some d =>
    rw [e] at hp
    cases hp
    unfold dmP at rp
    cases rp with
    | @tup a o xs _ e1 d1 n1 q1 =>
      cases q1 with
      | cons r1 q1 =>
        cases q1 with
        | cons r2 q1 =>
          cases q1 with
          | cons r3 q1 =>
            cases q1
            cases r1
            cases r2
            cases r3
            exact ⟨d, a, o, rfl, rfl, e1⟩
end VL
set_option Elab.async false
set_option linter.all false
set_option maxRecDepth 100000
set_option maxHeartbeats 4000000
/-! VL99: sorted of a list of any alike data -/
namespace VL
open PySem PySem.Spec PyProof.Rows L2
/-- the data, sorted -/
def sortD (ds : List PyData) : List PyData := ds.mergeSort (PySem.W.dataLe false id)
theorem Rqs.each2 {Z : Addr → Prop} {H : Hp} : ∀ {v : List V} {d : List PyData}, Rqs Z H v d → ∀ p ∈ v.zip d, Rq Z H p.1 p.2
  | _, _, .nil, p, hp => by simp at hp
  | _, _, .cons r t, p, hp => by
    rw [List.zip_cons_cons] at hp
    rcases List.mem_cons.mp hp with rfl | hp
    · exact r
    · exact Rqs.each2 t p hp
theorem Rqs.of_each {Z : Addr → Prop} {H : Hp} : ∀ {ps : List (V × PyData)}, (∀ p ∈ ps, Rq Z H p.1 p.2) → Rqs Z H (ps.map (·.1)) (ps.map (·.2))
  | [], _ => .nil
  | p :: ps, h => .cons (h p List.mem_cons_self) (Rqs.of_each fun q hq => h q (List.mem_cons_of_mem _ hq))
theorem each_reads {h h' : Heap} {a : Addr} (ha : h.get? a = none) (k : ∀ b o, h.get? b = some o → h'.get? b = some o) : ∀ {us : List Value} {ds : List PyData} {as : List Addr}, ReadsAll h us ds as → (∀ d ∈ ds, PySem.W.alike d d = true) → a ∉ as → PySem.W.EachIs (fun v d => ∃ as, Reads h' v d as) us ds
  | _, _, _, .nil, _, _ => .nil
  | _, _, _, .cons r t, al, n => .cons ⟨_, PySem.W.Reads.keepBut (fun b o _ e => k b o e) (fun o e => by rw [ha] at e; cases e) _ _ _ (al _ List.mem_cons_self) r fun m => n (List.mem_append_left _ m)⟩ (each_reads ha k t (fun d hd => al d (List.mem_cons_of_mem _ hd)) fun m => n (List.mem_append_right _ m))
def rSortedD : List V → Hp → VK → Prop := fun vs H Q => ∃ (a : Addr) (xs : List V) (ds : List PyData) (Z : Addr → Prop), vs = [V.ref a] ∧ H a = some (.lst xs) ∧ Rqs Z H xs ds ∧ PySem.W.AllAlike ds ∧ PySem.W.Sortable ds ∧ (∀ d ∈ ds, d.depth ≤ 40) ∧
  ∀ ys p, Rqs Z H ys (sortD ds) → H p = none → Q (.ref p) (upd H p (.lst ys))
theorem each_zip : ∀ {us : List Value} {xs : List V} {ds : List PyData}, Vals xs us → xs.length = ds.length → PySem.W.EachIs (fun u (p : V × PyData) => RelV p.1 u) us (xs.zip ds)
  | _, _, [], .nil, _ => .nil
  | _, _, [], .cons _ _, e => by simp at e
  | _, _, _ :: _, .nil, e => by simp at e
  | _, _, d :: ds, .cons r t, e => .cons r (each_zip t (by simpa using e))
theorem vals_each : ∀ {us : List Value} {ps : List (V × PyData)}, PySem.W.EachIs (fun u (p : V × PyData) => RelV p.1 u) us ps → Vals (ps.map (·.1)) us
  | _, _, .nil => .nil
  | _, _, .cons r t => .cons r (vals_each t)
section
variable {X : Cx}
theorem cr_sortedD (hu : X.A.units + 64 < cLine) : CallR X (.builtin "sorted") rSortedD := by
  intro pins s σ H vs us Q I r h
  obtain ⟨a, xs, ds, Z, rfl, ha, rq, hal, hso, hd, q⟩ := h
  obtain ⟨its, rv, hl, hz⟩ := I.list (SqL.of ha)
  obtain ⟨u, rfl, ru⟩ := vals1 r
  obtain rfl : u = Value.ref a := ru
  obtain ⟨as, hr, hin⟩ := rq.reads I _ rv
  have hL : its.length ≤ sizeLine := by rw [← rv.length]; exact hz
  have nin : s.heap.objs.size ∉ as := fun m => hin _ m (I.hok.fresh (Nat.le_refl _))
  have e0 := each_reads (h' := PySem.W.sortingHeap (PySem.W.copyHeap s.heap its) (s.heap.objs.size + 1) its) (a := s.heap.objs.size) (by
    cases e : s.heap.get? s.heap.objs.size with
    | none => rfl
    | some o => exact absurd (Heap.lt_size e) (Nat.lt_irrefl _)) (fun b o e => PySem.W.sorting_copy_old e) hr (fun d hd => hal d hd d hd) nin
  have ko : PySem.W.KeyedOut false ((xs.zip ds).map (·.2)) its (PySem.W.sortVals (PySem.W.dataKind (PySem.W.sortingHeap (PySem.W.copyHeap s.heap its) (s.heap.objs.size + 1) its) ds) false its its) := by
    have e2 : (xs.zip ds).map (·.2) = ds := by
      rw [List.map_snd_zip]
      rw [rq.length]; exact Nat.le_refl _
    rw [e2]
    exact ⟨_, its, hal, rfl, e0⟩
  refine PySem.W.sorted_vals hl.isList (PySem.W.SortsAt.data (s := { s with heap := _ }) e0 hal hso fun d hdm => ?_) hL ?_
  · have := hd d hdm
    show X.A.units + 1 + 1 + d.depth < cLine
    omega
  · have eo := PySem.W.keyedOut_each (R := fun u (p : V × PyData) => RelV p.1 u) (bs := xs.zip ds) (·.2) ko (each_zip rv rq.length)
    have v2 := vals_each eo
    generalize PySem.W.sortVals (PySem.W.dataKind (PySem.W.sortingHeap (PySem.W.copyHeap s.heap its) (s.heap.objs.size + 1) its) ds) false its its = out at v2
    obtain ⟨n, hn⟩ := sortedAll_at s.heap its out.toArray
    have rq2 : Rqs Z H (((xs.zip ds).mergeSort (PySem.W.dataLe false (·.2))).map (·.1)) (sortD ds) := by
      have e3 : ((xs.zip ds).mergeSort (PySem.W.dataLe false (·.2))).map (·.2) = sortD ds := by
        unfold sortD
        refine (List.map_mergeSort (f := fun x : V × PyData => x.2) (s := PySem.W.dataLe false id) (fun a _ b _ => rfl)).trans ?_
        rw [List.map_snd_zip (by rw [rq.length]; exact Nat.le_refl _)]
      rw [← e3]
      exact Rqs.of_each fun p hp => rq.each2 p ((List.mergeSort_perm _ _).mem_iff.mp hp)
    refine ⟨.ref (s.heap.objs.size + 1), upd H (s.heap.objs.size + 1) (.lst (((xs.zip ds).mergeSort (PySem.W.dataLe false (·.2))).map (·.1))), I.laid (t' := s.toks) (fun b o e => sortedAll_old e) (Nat.le_succ _) ⟨?_, out, n, v2, hn⟩, rfl, q _ _ rq2 (I.hok.fresh (Nat.le_succ _))⟩
    rw [List.length_map, List.length_mergeSort, List.length_zip]
    exact Nat.le_trans (Nat.min_le_left _ _) hz
end
@[simp] def gSortedD : List D → (D → Prop) → Prop
  | [.py (.list xs)], Q => PySem.W.AllAlike xs ∧ PySem.W.Sortable xs ∧ (∀ d ∈ xs, d.depth ≤ 40) ∧ Q (.py (.list (sortD xs)))
  | _, _ => False
theorem rd_sortedD {b : Bg} : CalD b (RN b) rSortedD gSortedD := by
  intro Z H vs ds Q Qd gd rx h k
  match ds, h, rx with
  | [.py (.list xs)], ⟨h1, h2, h3, h⟩, rx =>
    obtain ⟨x, rfl, r⟩ := rx.one
    obtain ⟨a, us, rfl, ha, qa⟩ := r.list
    exact ⟨a, us, xs, Z, rfl, ha, qa, h1, h2, h3, fun ys p ry hn => k _ _ (.py (.list (sortD xs))) (Ex.new hn) (gd.new hn) ⟨p, rfl, hn, ys, upd_same, ry.up' hn⟩ h⟩
section
variable {X : Cx} {b : Bg} {W : WX} {e : Expr} {es : List Expr} {u : VA} {p pos : Pos}
theorem vn_sortedD (hu : X.A.units + 64 < cLine) (hg : Gl X "sorted") (hm : X.mg "sorted" = none) (ha : VXs X b W (e :: es) u) (he : starEach (e :: es) X.env = (false, eval e X.env) :: starEach es X.env := by rfl) (hpl : (backTo pos (starEach es X.env)).any (·.1) = false := by rfl) :
    VN X b W (.Call (.Name "sorted" p) (e :: es) [] pos) (vCal gSortedD u) := vn_callB (cr_sortedD hu) rd_sortedD hg hm bb_sorted ha (by decide) (by decide) he hpl
end
end VL
set_option Elab.async false
set_option linter.all false
set_option maxRecDepth 100000
set_option maxHeartbeats 4000000
namespace LawP
open PySem PySem.Spec PyProof.Rows L2 VL
def t_mates : VS :=
  (sSeq (sPar [1, 2] (mCons true (vLst vNil) (mCons true vD0 mNil)))
  (sSeq (sFor (iEn (vCons (vVar 0) vNil)) (tgTup 2 (tgCons (tgName 3) (tgCons (tgName 4) tgNil)))
  (sSeq (sMut 1 gApp (vCons (vDGet2 (vBor 2) (vVar 4) (vC (.py .none))) vNil))
  (sDPutO 2 (vVar 4) (vVar 3))))
  (sRet (vCal gTuple (vCons (vBor 1) vNil)))))
end LawP
set_option Elab.async false
set_option linter.all false
namespace LawP
open PySem VL
/-! ### mates: the mathematics -/
/-- the latest person before i of the group g -/
def lastIn (row : List Int) (g : Int) (i : Nat) : Option Nat := ((List.range i).filter fun j => row[j]? == some g).getLast?
def mateOf (row : List Int) (i : Nat) : Option Nat := (row[i]?).bind fun g => lastIn row g i
def matesL (row : List Int) : List (Option Nat) := (List.range row.length).map (mateOf row)
theorem lastIn_succ (row : List Int) (g : Int) (i : Nat) : lastIn row g (i + 1) = if row[i]? = some g then some i else lastIn row g i := by
  unfold lastIn
  rw [List.range_succ, List.filter_append]
  by_cases h : row[i]? = some g
  · rw [if_pos h]; simp [h]
  · rw [if_neg h]; simp [h]
theorem lastIn_some {row : List Int} {g : Int} {i m : Nat} (h : lastIn row g i = some m) : m < i ∧ row[m]? = some g ∧ ∀ j, m < j → j < i → row[j]? ≠ some g := by
  induction i with
  | zero => simp [lastIn] at h
  | succ i ih =>
    rw [lastIn_succ] at h
    split at h
    · rename_i c
      cases h
      exact ⟨Nat.lt_succ_self _, c, fun j h1 h2 => by omega⟩
    · rename_i c
      obtain ⟨a, b, d⟩ := ih h
      refine ⟨by omega, b, fun j h1 h2 => ?_⟩
      by_cases e : j = i
      · rw [e]; exact c
      · exact d j h1 (by omega)
theorem lastIn_none {row : List Int} {g : Int} {i : Nat} (h : lastIn row g i = none) : ∀ j, j < i → row[j]? ≠ some g := by
  induction i with
  | zero => intro j hj; omega
  | succ i ih =>
    rw [lastIn_succ] at h
    split at h
    · cases h
    · rename_i c
      intro j hj
      by_cases e : j = i
      · rw [e]; exact c
      · exact ih h j (by omega)
theorem mateOf_lt {row : List Int} {i m : Nat} (h : mateOf row i = some m) : m < i ∧ i < row.length := by
  unfold mateOf at h
  cases e : row[i]? with
  | none => rw [e] at h; cases h
  | some g =>
    rw [e] at h
    exact ⟨(lastIn_some h).1, (List.getElem?_eq_some_iff.mp e).1⟩
theorem mateOf_at {row : List Int} {i : Nat} {g : Int} (h : row[i]? = some g) : mateOf row i = lastIn row g i := by unfold mateOf; rw [h]; rfl
end LawP
set_option Elab.async false
set_option linter.all false
set_option maxRecDepth 100000
set_option maxHeartbeats 4000000
namespace LawP
open PySem PySem.Spec PyProof.Rows L2 VL
/-! ### mates -/
def matesP (row : List Int) : PyData := .tuple ((matesL row).map oN)
@[simp] def S_mates : SV := fun ds Q _ => ∃ row : List Int, ds = [.py (tI row)] ∧ row.length ≤ 1000 ∧ Q (.py (matesP row))
theorem l_mates : ∀ ds Q E, S_mates ds Q E → t_mates (envOf 5 ds) (fin Q E) := by
  rintro ds Q E ⟨row, rfl, hl, q⟩
  simp [t_mates, tI, -forGo]
  refine for_inv (fun i ρ => ∃ acc ds x y, ρ = [.shr (.py (tI row)), .own (.py (.list acc)), .own (.py (.dict ds)), x, y] ∧ acc = ((matesL row).take i).map oN ∧ ds.length ≤ i ∧ ∀ g, getD ds (.inl g) = (lastIn row g i).map pN) (fun i d ρ hd iv nx ct hn => ?_) (fun ρ iv => ?_) ⟨[], [], _, _, rfl, by simp, by simp, fun g => by simp [lastIn]⟩
  · obtain ⟨acc, ds, x, y, rfl, ea, h1, h2⟩ := iv
    obtain ⟨g, hg, rfl⟩ := enumP_getD hd
    have hi : i < row.length := (List.getElem?_eq_some_iff.mp hg).1
    have hm : (matesL row)[i]? = some (mateOf row i) := by simp [matesL, hi]
    have la : acc.length = i := by rw [ea]; simp [matesL]; omega
    simp [VL.keyOf, h2]
    refine ⟨by omega, by omega, (hn _ ⟨_, _, _, _, rfl, ?_, ?_, fun g' => ?_⟩).1⟩
    · rw [take_succ_get hm, List.map_append, ea, mateOf_at hg]
      cases lastIn row g i <;> rfl
    · have := putD_len ds (.inl g) (.int i)
      omega
    · rw [getD_putD, lastIn_succ, h2, hg]
      by_cases c : g' = g
      · subst c; simp [pN]
      · simp [c, Ne.symm c]
  · obtain ⟨acc, ds, x, y, rfl, ea, _, _⟩ := iv
    rw [List.take_of_length_le (by simp [matesL, enumP_len])] at ea
    subst ea
    simpa [matesP] using q
/-! ### a drawn row -/
@[simp] def S_law_drawn (r : Addr) : SV
  | [.raw v, .py (.int m)], Q, _ => v = .ref r ∧ 1 ≤ m ∧ m ≤ 40 ∧ ∀ gs : List Int, gs ≠ [] → gs.length ≤ m → (∀ g ∈ gs, 0 ≤ g ∧ g ≤ 1000000000) → Q (.py (.tuple (gs.map PyData.int)))
  | _, _, _ => False
end LawP
set_option Elab.async false
set_option linter.all false
set_option maxRecDepth 100000
set_option maxHeartbeats 4000000
namespace LawP
open PySem PySem.Spec PyProof.Rows L2 VL
def t_word_with : VS :=
  (sSeq (sPar [1, 2] (mCons true (vLst vNil) (mCons false (vC (.py (.int 0))) mNil)))
  (sSeq (sFor (iS (vVar 0)) (tgName 3)
  (sSeq (sMut 1 gApp (vCons (vBin gAdd (vBin gMulA (vC (.py (.str "s"))) (vBin gSub (vBor 3) (vBor 2))) (vC (.py (.str "a")))) vNil))
  (sSet 2 (vVar 3))))
  (sRet (vBin gAdd (vMth isS gTJoin (vC (.py (.str ""))) (vCons (vBor 1) vNil)) (vBin gMulA (vC (.py (.str "s"))) (vBin gSub (vCal gLen (vCons (vBor 0) vNil)) (vBor 2)))))))
end LawP
set_option Elab.async false
set_option linter.all false
set_option maxRecDepth 100000
set_option maxHeartbeats 4000000
namespace LawP
open PySem PySem.Spec PyProof.Rows L2 VL
end LawP
set_option Elab.async false
set_option linter.all false
namespace LawP
open PySem VL
/-! ### words: the mathematics -/
def isL (c : Nat) : Bool := c == 97 || c == 115
/-- the places of signs that are no letters -/
def badW (w : List Nat) : List Nat := (w.zipIdx.filter fun p => !isL p.1).map (·.2)
/-- the first arrival or service too many: n persons, from place k on, behind a arrivals and s services -/
def scanP (n : Nat) : Nat → Nat → Nat → List Nat → PyData
  | _, _, _, [] => .none
  | k, a, s, c :: w => if c = 97 then (if a = n then .tuple [.int k, .str "arrival"] else scanP n (k + 1) (a + 1) s w) else (if s = a then .tuple [.int k, .str "service"] else scanP n (k + 1) a (s + 1) w)
def wErrL (n : Nat) (w : List Nat) : PyData := match badW w with
  | i :: _ => .tuple [.int (i : Nat), .str "letter"]
  | [] => scanP n 0 0 0 w
def wErr (n : Nat) : PyData → PyData
  | .str z => wErrL n (sl z)
  | _ => .tuple [.none, .str "string"]
/-- w is what is left of a history of n persons, behind a arrivals and s services -/
def goodW (n : Nat) : Nat → Nat → List Nat → Prop
  | a, s, [] => a = n ∧ s = n
  | a, s, c :: w => (c = 97 ∧ a < n ∧ goodW n (a + 1) s w) ∨ (c = 115 ∧ s < a ∧ goodW n a (s + 1) w)
/-- histories -/
def HistW (n : Nat) (w : List Nat) : Prop := goodW n 0 0 w
theorem goodW_len {n : Nat} : ∀ {w : List Nat} {a s : Nat}, goodW n a s w → w.length + a + s = 2 * n
  | [], a, s, ⟨h1, h2⟩ => by simp; omega
  | c :: w, a, s, h => by
    rcases h with ⟨_, _, h⟩ | ⟨_, _, h⟩
    · have := goodW_len h; simp; omega
    · have := goodW_len h; simp; omega
theorem HistW.len {n : Nat} {w : List Nat} (h : HistW n w) : w.length = 2 * n := by have := goodW_len h; omega
theorem goodW_let {n : Nat} : ∀ {w : List Nat} {a s : Nat}, goodW n a s w → ∀ c ∈ w, c = 97 ∨ c = 115
  | [], _, _, _, c, h => by simp at h
  | d :: w, a, s, h, c, hc => by
    rcases List.mem_cons.mp hc with rfl | hc
    · exact h.elim (fun q => .inl q.1) fun q => .inr q.1
    · exact h.elim (fun q => goodW_let q.2.2 c hc) fun q => goodW_let q.2.2 c hc
end LawP
set_option Elab.async false
set_option linter.all false
set_option maxRecDepth 100000
set_option maxHeartbeats 4000000
namespace LawP
open PySem PySem.Spec PyProof.Rows L2 VL
@[simp] theorem lit_a : Str.ofString "a" = mkS [97] := by decide +kernel
@[simp] theorem lit_s : Str.ofString "s" = mkS [115] := by decide +kernel
@[simp] theorem lit_e : Str.ofString "" = mkS [] := by decide +kernel
@[simp] theorem lit_as : Str.ofString "as" = mkS [97, 115] := by decide +kernel
def isSm (p : PyData) : Prop := ∀ z, p = .str z → z.length ≤ 100000
/-! ### word_error -/
@[simp] def S_word_error : SV
  | [.py (.tuple xs), .py p], Q, _ => isSm p ∧ Q (.py (wErr xs.length p))
  | _, _, _ => False
/-! ### is_history -/
def isHist (n : Nat) (p : PyData) : Bool := match p with
  | .str z => isNn (wErr n (.str z)) && decide (z.length = 2 * n)
  | _ => false
@[simp] def S_is_history : SV
  | [.py (.tuple xs), .py p], Q, _ => isSm p ∧ xs.length ≤ 100000 ∧ Q (.py (.bool (isHist xs.length p)))
  | _, _, _ => False
/-! ### what is drawn -/
def odds : List PyData := [.none, .bool true, .bool false, .int (-1), .int 0, .int 1, .int 40, .int 1000000001, .int 1000000000000000000000000000000000000000, .str "", .str "a", .str "as", .str "0", .tuple [], .list [], .dict [], .tuple [.int 0], .list [.int 0], .tuple [.bool true], .tuple [.str "a", .str "s"], .tuple [.int 0, .int 0], .str "none", .dict [(.str "a", .int 0)], .tuple [.int 1, .int 0]]
@[simp] def S_law_odd (r : Addr) : SV
  | [.raw v], Q, _ => v = .ref r ∧ ∀ p ∈ odds, Q (.py p)
  | _, _, _ => False
@[simp] def S_law_word (r : Addr) : SV
  | [.raw v, .py (.int m), .py (.int way)], Q, _ => v = .ref r ∧ 0 ≤ m ∧ m ≤ 1000 ∧ 0 ≤ way ∧ way < 5 ∧ ∀ w : List Nat, HistW m.toNat w → Q (.py (.str (mkS w)))
  | _, _, _ => False
/-! ### the law's own look at a word -/
@[simp] def S_law_fault : SV
  | [.py (.tuple xs), .py p], Q, _ => isSm p ∧ Q (.py (wErr xs.length p))
  | _, _, _ => False
/-! ### a word changed -/
@[simp] def S_law_twisted (r : Addr) : SV
  | [.raw v, .py (.str z)], Q, _ => v = .ref r ∧ z.length ≤ 50000 ∧ ∀ z' : Str, z'.length ≤ z.length + 10 → (∀ c ∈ sl z', c ∈ sl z ∨ c < 128) → Q (.py (.str z'))
  | _, _, _ => False
end LawP
set_option Elab.async false
set_option linter.all false
set_option maxRecDepth 100000
set_option maxHeartbeats 4000000
namespace LawP
open PySem PySem.Spec PyProof.Rows L2 VL
/-! ### sizes of words and what is told of them -/
theorem sw_mkS {u : List Nat} {n : Nat} (h : u.length ≤ n) (hc : ∀ c ∈ u, c < 1114112) : Sw n 0 (.str (mkS u)) := by
  refine ⟨by simp only [PyData.showable], ?_, ?_, by simp only [PyData.depth]; omega⟩
  · simp only [PyData.leavesShort]
    rw [List.all_eq_true]
    intro c hm
    have := hc c (by simpa using hm)
    exact decide_eq_true (by omega)
  · simp only [PyData.weight]
    show (mkS u).length ≤ n
    simpa using h
end LawP
set_option Elab.async false
set_option linter.all false
set_option maxRecDepth 100000
set_option maxHeartbeats 4000000
namespace LawP
open PySem PySem.Spec PyProof.Rows L2 VL
/-! ### whole numbers within bounds -/
def isInt (p : PyData) (lo hi : Int) : Bool := match p with
  | .int i => decide (lo ≤ i) && decide (i ≤ hi)
  | _ => false
@[simp] def S_is_integer : SV
  | [.py p, .py (.int lo), .py (.int hi)], Q, _ => Q (.py (.bool (isInt p lo hi)))
  | _, _, _ => False
/-! ### counts and their words -/
/-- the first wrong place, b the count before -/
def badC : Int → Nat → List PyData → Option Nat
  | _, _, [] => none
  | b, k, .int c :: ps => if b ≤ c ∧ c ≤ k then badC c (k + 1) ps else some k
  | _, k, _ :: _ => some k
def wordP : Int → Nat → List PyData → List Nat
  | b, k, [] => List.replicate ((k : Int) - b).toNat 115
  | b, k, .int c :: ps => List.replicate (c - b).toNat 115 ++ 97 :: wordP c (k + 1) ps
  | _, _, _ :: _ => []
theorem badC_cons {b : Int} {k : Nat} {p : PyData} {ps : List PyData} : badC b k (p :: ps) = if isInt p b k = true then (match p with | .int c => badC c (k + 1) ps | _ => none) else some k := by
  cases p <;> simp [badC, isInt]
theorem isInt_ex {p : PyData} {lo hi : Int} (h : isInt p lo hi = true) : ∃ c, p = .int c ∧ lo ≤ c ∧ c ≤ hi := by
  cases p <;> simp [isInt] at h
  exact ⟨_, rfl, h.1, h.2⟩
theorem drop_atE {α : Type} {xs : List α} {i : Nat} {x : α} (h : xs[i]? = some x) : xs.drop i = x :: xs.drop (i + 1) := by
  obtain ⟨hi, rfl⟩ := List.getElem?_eq_some_iff.mp h
  exact List.drop_eq_getElem_cons hi
theorem sum_le {ls : List (List Nat)} {m : Nat} (h : ∀ l ∈ ls, l.length ≤ m) : (ls.map List.length).sum ≤ m * ls.length := by
  induction ls with
  | nil => simp
  | cons l ls ih =>
    have := ih fun l hl => h l (List.mem_cons_of_mem _ hl)
    have := h l List.mem_cons_self
    simp only [List.map_cons, List.sum_cons, List.length_cons, Nat.mul_add]
    omega
@[simp] def S_word_with : SV
  | [.py (.tuple ps)], Q, _ => ps.length ≤ 40 ∧ badC 0 0 ps = none ∧ Q (.py (.str (mkS (wordP 0 0 ps))))
  | [.py (.list ps)], Q, _ => ps.length ≤ 40 ∧ badC 0 0 ps = none ∧ Q (.py (.str (mkS (wordP 0 0 ps))))
  | _, _, _ => False
theorem l_word_with : ∀ ds Q E, S_word_with ds Q E → t_word_with (envOf 4 ds) (fin Q E)
  | [.py (.tuple ps)], Q, E, ⟨hl, hb, q⟩ => by
    simp [t_word_with, -forGo]
    refine for_inv (fun i ρ => ∃ (ls : List (List Nat)) (sv : List PyData) (bf : Int) (x : VL.Slot), ρ = [.shr (.py (.tuple ps)), .own (.py (.list sv)), .shr (.py (.int bf)), x] ∧ sv = ls.map (fun l => PyData.str (mkS l)) ∧ ls.length = i ∧ badC bf i (ps.drop i) = none ∧ wordP 0 0 ps = ls.flatten ++ wordP bf i (ps.drop i) ∧ 0 ≤ bf ∧ bf ≤ i ∧ ∀ l ∈ ls, l.length ≤ 42) (fun i p ρ hp iv nx ct hn => ?_) (fun ρ iv => ?_) ⟨[], [], 0, _, rfl, rfl, rfl, by simpa using hb, by simp, by omega, by omega, by simp⟩
    · obtain ⟨ls, sv, bf, x, rfl, es, el, h1, h2, h3, h4, h5⟩ := iv
      have hi : i < ps.length := (List.getElem?_eq_some_iff.mp hp).1
      rw [drop_atE hp] at h1 h2
      rw [badC_cons] at h1
      by_cases c : isInt p bf i = true
      · obtain ⟨k, rfl, k1, k2⟩ := isInt_ex c
        rw [if_pos c] at h1
        have sl : sv.length = i := by rw [es]; simpa using el
        simp
        refine ⟨by omega, by omega, by omega, (hn _ ⟨ls ++ [List.replicate (k - bf).toNat 115 ++ [97]], _, k, _, rfl, ?_, by simp [el], h1, ?_, by omega, by omega, ?_⟩).1⟩
        · rw [es]; simp
        · rw [h2]; simp [wordP]
        · intro l hl'
          rcases List.mem_append.mp hl' with h | h
          · exact h5 l h
          · rw [List.mem_singleton.mp h]; simp; omega
      · rw [if_neg c] at h1
        cases h1
    · obtain ⟨ls, sv, bf, x, rfl, es, el, h1, h2, h3, h4, h5⟩ := iv
      rw [List.drop_length] at h2
      have hs := sum_le h5
      have ej := join0 ls
      simp [es, allS_mk]
      have e0 : ((fun x : Str => x.length) ∘ mkS) = (List.length : List Nat → Nat) := by funext l; simp
      have el2 : (Txt.join (mkS []) (List.map mkS ls)).length = (ls.map List.length).sum := by rw [ej]; simp [List.length_flatten]
      rw [e0, el2, ej]
      refine ⟨by omega, ⟨by omega, by omega, by omega⟩, by omega, ?_⟩
      rw [h2] at q
      simpa [wordP] using q
  | [.py (.list ps)], Q, E, ⟨hl, hb, q⟩ => by
    simp [t_word_with, -forGo]
    refine for_inv (fun i ρ => ∃ (ls : List (List Nat)) (sv : List PyData) (bf : Int) (x : VL.Slot), ρ = [.shr (.py (.list ps)), .own (.py (.list sv)), .shr (.py (.int bf)), x] ∧ sv = ls.map (fun l => PyData.str (mkS l)) ∧ ls.length = i ∧ badC bf i (ps.drop i) = none ∧ wordP 0 0 ps = ls.flatten ++ wordP bf i (ps.drop i) ∧ 0 ≤ bf ∧ bf ≤ i ∧ ∀ l ∈ ls, l.length ≤ 42) (fun i p ρ hp iv nx ct hn => ?_) (fun ρ iv => ?_) ⟨[], [], 0, _, rfl, rfl, rfl, by simpa using hb, by simp, by omega, by omega, by simp⟩
    · obtain ⟨ls, sv, bf, x, rfl, es, el, h1, h2, h3, h4, h5⟩ := iv
      have hi : i < ps.length := (List.getElem?_eq_some_iff.mp hp).1
      rw [drop_atE hp] at h1 h2
      rw [badC_cons] at h1
      by_cases c : isInt p bf i = true
      · obtain ⟨k, rfl, k1, k2⟩ := isInt_ex c
        rw [if_pos c] at h1
        have sl : sv.length = i := by rw [es]; simpa using el
        simp
        refine ⟨by omega, by omega, by omega, (hn _ ⟨ls ++ [List.replicate (k - bf).toNat 115 ++ [97]], _, k, _, rfl, ?_, by simp [el], h1, ?_, by omega, by omega, ?_⟩).1⟩
        · rw [es]; simp
        · rw [h2]; simp [wordP]
        · intro l hl'
          rcases List.mem_append.mp hl' with h | h
          · exact h5 l h
          · rw [List.mem_singleton.mp h]; simp; omega
      · rw [if_neg c] at h1
        cases h1
    · obtain ⟨ls, sv, bf, x, rfl, es, el, h1, h2, h3, h4, h5⟩ := iv
      rw [List.drop_length] at h2
      have hs := sum_le h5
      have ej := join0 ls
      simp [es, allS_mk]
      have e0 : ((fun x : Str => x.length) ∘ mkS) = (List.length : List Nat → Nat) := by funext l; simp
      have el2 : (Txt.join (mkS []) (List.map mkS ls)).length = (ls.map List.length).sum := by rw [ej]; simp [List.length_flatten]
      rw [e0, el2, ej]
      refine ⟨by omega, ⟨by omega, by omega, by omega⟩, by omega, ?_⟩
      rw [h2] at q
      simpa [wordP] using q
@[simp] def wfQ (ps : List PyData) (Q : D → Prop) (E : Er → Prop) : Prop := if 1 ≤ ps.length ∧ ps.length ≤ 40 then (match badC 0 0 ps with | none => Q (.py (.str (mkS (wordP 0 0 ps)))) | some k => E ⟨"BadCount", [("index", .int (k : Nat))]⟩) else E ⟨"TooLarge", [("limit", .int 40)]⟩
@[simp] def S_word_from : SV
  | [.py (.tuple ps)], Q, E => wfQ ps Q E
  | _, _, _ => False
end LawP
set_option Elab.async false
set_option linter.all false
set_option maxRecDepth 100000
set_option maxHeartbeats 4000000
namespace LawP
open PySem PySem.Spec PyProof.Rows L2 VL
def t_g_row (S_law_tooth : SV) : VS :=
  (sSeq (sPar [2, 3] (mCons false (vBin gAdd (vC (.py (.int 1))) (vCall S_law_tooth (vCons (vVar 0) (vCons (vVar 1) vNil)))) (mCons false (vCall S_law_tooth (vCons (vVar 0) (vCons (vC (.py (.int 5))) vNil))) mNil)))
  (sSeq (sSetN 4 (vLst vNil))
  (sSeq (sFor (iR1 (vCons (vBor 2) vNil)) (tgName 5)
  (sSeq (sSet 6 (vLst (vCons (vC (.py (.int 7))) (vCons (vCall S_law_tooth (vCons (vVar 0) (vCons (vC (.py (.int 2))) vNil))) (vCons (vCall S_law_tooth (vCons (vVar 0) (vCons (vBin gAdd (vC (.py (.int 2))) (vBin gFdiv (vBor 2) (vC (.py (.int 3))))) vNil))) (vCons (vVar 5) (vCons (vBin gSub (vBin gPow (vC (.py (.int 10))) (vC (.py (.int 9)))) (vCall S_law_tooth (vCons (vVar 0) (vCons (vC (.py (.int 3))) vNil)))) vNil)))))))
  (sMut 4 gApp (vCons (vBin gIx (vBor 6) (vBor 3)) vNil))))
  (sRet (vCal gTuple (vCons (vBor 4) vNil))))))
def t_g_demand (S_law_tooth : SV) : VS :=
  (sSeq (sSet 2 (vBin gIx (vLst (vCons (vC (.py (.str "soon"))) (vCons (vC (.py (.str "late"))) vNil))) (vCall S_law_tooth (vCons (vVar 0) (vCons (vC (.py (.int 2))) vNil)))))
  (sRet (vTup (vCons (vVar 2) (vCons (vCall S_law_tooth (vCons (vVar 0) (vCons (vCal gLen (vCons (vBor 1) vNil)) vNil))) (vCons (vCall S_law_tooth (vCons (vVar 0) (vCons (vCal gLen (vCons (vBor 1) vNil)) vNil))) vNil))))))
def t_is_person : VS :=
  (sRet (vAnd (vCal gIsi (vCons (vBor 1) (vCons (vC (.raw (.ty "int"))) vNil))) (vAnd (vNot (vCal gIsi (vCons (vBor 1) (vCons (vC (.raw (.ty "bool"))) vNil)))) (vChain gLe gLt (vC (.py (.int 0))) (vBor 1) (vCal gLen (vCons (vBor 0) vNil))))))
def t_is_demand (S_is_person : SV) : VS :=
  (sSeq (sIf (wOr (wNot (vTst (vCal gIsi (vCons (vBor 1) (vCons (vC (.raw (.ty "tuple"))) vNil))))) (wOr (vTst (vBin gNe (vCal gLen (vCons (vBor 1) vNil)) (vC (.py (.int 3))))) (wNot (vTst (vCal gIsi (vCons (vBin gIx (vBor 1) (vC (.py (.int 0)))) (vCons (vC (.raw (.ty "str"))) vNil)))))))
  (sRet (vC (.py (.bool false))))
  sNext)
  (sRet (vAnd (vBin (gIn false) (vBin gIx (vBor 1) (vC (.py (.int 0)))) (vTup (vCons (vC (.py (.str "soon"))) (vCons (vC (.py (.str "late"))) vNil)))) (vAnd (vCall S_is_person (vCons (vVar 0) (vCons (vBin gIx (vBor 1) (vC (.py (.int 1)))) vNil))) (vCall S_is_person (vCons (vVar 0) (vCons (vBin gIx (vBor 1) (vC (.py (.int 2)))) vNil)))))))
def t_demands_error (S_is_demand : SV) : VS :=
  (sSeq (sIf (wOr (wNot (vTst (vCal gIsi (vCons (vBor 1) (vCons (vC (.raw (.ty "tuple"))) vNil))))) (vTst (vBin gGt (vCal gLen (vCons (vBor 1) vNil)) (vC (.py (.int 30))))))
  (sRet (vTup (vCons (vC (.py .none)) (vCons (vC (.py (.str "demands"))) vNil))))
  sNext)
  (sSeq (sFor (iEn (vCons (vVar 1) vNil)) (tgTup 2 (tgCons (tgName 2) (tgCons (tgName 3) tgNil)))
  (sIf (wNot (vTst (vCall S_is_demand (vCons (vVar 0) (vCons (vVar 3) vNil)))))
  (sRet (vTup (vCons (vVar 2) (vCons (vC (.py (.str "demand"))) vNil))))
  sNext))
  (sRet (vC (.py .none)))))
end LawP
set_option Elab.async false
set_option linter.all false
set_option maxRecDepth 100000
set_option maxHeartbeats 4000000
namespace VL
open PySem PySem.Spec PyProof.Rows L2
/-! ### the sizes of lists of data -/
end VL
set_option Elab.async false
set_option linter.all false
set_option maxRecDepth 100000
set_option maxHeartbeats 4000000
namespace LawP
open PySem PySem.Spec PyProof.Rows L2 VL
/-! ### demands -/
def isPer (n : Nat) (p : PyData) : Bool := match p with
  | .int i => decide (0 ≤ i) && decide (i < (n : Int))
  | _ => false
@[simp] def S_is_person : SV := fun ds Q _ => ∃ (row : List Int) (p : PyData), ds = [.py (tI row), .py p] ∧ Q (.py (.bool (isPer row.length p)))
theorem l_is_person : ∀ ds Q E, S_is_person ds Q E → t_is_person (envOf 2 ds) (fin Q E) := by
  rintro ds Q E ⟨row, p, rfl, q⟩
  cases p <;> simp [t_is_person, isPer] at q ⊢ <;> try assumption
  rename_i i
  by_cases h : 0 ≤ i <;> simp [h] at q ⊢ <;> exact q
def demB (n : Nat) (p : PyData) : Bool := match p with
  | .tuple [.str k, a, b] => (k == "soon" || k == "late") && (isPer n a && isPer n b)
  | _ => false
@[simp] def S_is_demand : SV := fun ds Q _ => ∃ (row : List Int) (p : PyData), ds = [.py (tI row), .py p] ∧ Q (.py (.bool (demB row.length p)))
theorem dem3 {n : Nat} {k : Str} {a b : PyData} : demB n (.tuple [.str k, a, b]) = ((k == "soon" || k == "late") && (isPer n a && isPer n b)) := rfl
theorem dem_len {n : Nat} {xs : List PyData} (h : xs.length ≠ 3) : demB n (.tuple xs) = false := by
  unfold demB
  split
  · rename_i e; cases e; simp at h
  · rfl
@[simp] theorem at1 {α : Type} (a b : α) (l : List α) : atI (a :: b :: l) 1 = some b := by have := atI_nat (xs := a :: b :: l) (j := 1) (v := b) rfl; simpa using this
@[simp] theorem at2 {α : Type} (a b c : α) (l : List α) : atI (a :: b :: c :: l) 2 = some c := by have := atI_nat (xs := a :: b :: c :: l) (j := 2) (v := c) rfl; simpa using this
theorem l_is_demand : ∀ ds Q E, S_is_demand ds Q E → t_is_demand S_is_person (envOf 2 ds) (fin Q E) := by
  rintro ds Q E ⟨row, p, rfl, q⟩
  cases p
  case tuple xs =>
    by_cases hl : xs.length = 3
    · match xs, hl with
      | [a, b, c], _ =>
        cases a
        case str =>
          rename_i k hk
          simp [t_is_demand]
          rw [dem3] at q
          by_cases h1 : Str.ofString "soon" = k ∨ Str.ofString "late" = k
          · rw [if_pos h1]
            have h2 : (k == Str.ofString "soon" || k == Str.ofString "late") = true := by simpa using h1.imp Eq.symm Eq.symm
            rw [h2, Bool.true_and] at q
            refine ⟨row, b, ⟨rfl, rfl⟩, ?_⟩
            cases hb : isPer row.length b with
            | true => simp [hb] at q ⊢; exact ⟨row, c, ⟨rfl, rfl⟩, q⟩
            | false => simp [hb] at q ⊢; exact q
          · rw [if_neg h1]
            have h2 : (k == Str.ofString "soon" || k == Str.ofString "late") = false := by
              cases hq : (k == Str.ofString "soon" || k == Str.ofString "late")
              · rfl
              · exact absurd ((by simpa using hq : k = Str.ofString "soon" ∨ k = Str.ofString "late").imp Eq.symm Eq.symm) h1
            rw [h2, Bool.false_and] at q
            exact q
        all_goals (simp [t_is_demand, demB] at q ⊢; try exact q)
    · rw [dem_len hl] at q
      have hi : ¬ (xs.length : Int) = 3 := by omega
      simp [t_is_demand, hi]
      exact q
  all_goals (simp [t_is_demand, demB] at q ⊢; try exact q)
/-! ### what is wrong -/
def isLen (p : PyData) : Prop := ∀ xs, p = .tuple xs → xs.length ≤ 100000
def wrongs (n : Nat) : Nat → List PyData → List Nat
  | _, [] => []
  | k, x :: xs => if demB n x = true then wrongs n (k + 1) xs else k :: wrongs n (k + 1) xs
theorem wrongs_cons {n k : Nat} {x : PyData} {xs : List PyData} : wrongs n k (x :: xs) = if demB n x = true then wrongs n (k + 1) xs else k :: wrongs n (k + 1) xs := rfl
def demErr (n : Nat) (p : PyData) : PyData := match p with
  | .tuple xs => if xs.length ≤ 30 then (match wrongs n 0 xs with
    | [] => .none
    | k :: _ => .tuple [.int (k : Nat), .str "demand"]) else .tuple [.none, .str "demands"]
  | _ => .tuple [.none, .str "demands"]
@[simp] def S_demands_error : SV := fun ds Q _ => ∃ (row : List Int) (p : PyData), ds = [.py (tI row), .py p] ∧ isLen p ∧ Q (.py (demErr row.length p))
theorem l_demands_error : ∀ ds Q E, S_demands_error ds Q E → t_demands_error S_is_demand (envOf 4 ds) (fin Q E) := by
  rintro ds Q E ⟨row, p, rfl, hl, q⟩
  cases p
  case tuple xs =>
    simp [t_demands_error, -forGo]
    simp only [demErr] at q
    by_cases h30 : xs.length ≤ 30
    · rw [if_pos h30] at q
      rw [if_neg (by omega)]
      refine for_inv (fun i ρ => ∃ x y : VL.Slot, ρ = [.shr (.py (tI row)), .shr (.py (.tuple xs)), x, y] ∧ wrongs row.length 0 xs = wrongs row.length i (xs.drop i)) (fun i p ρ hp iv nx ct hn => ?_) (fun ρ iv => ?_) ⟨_, _, rfl, by simp⟩
      · obtain ⟨x, y, rfl, h1⟩ := iv
        obtain ⟨p, hp2, rfl⟩ := enumP_getD (f := id) (by simpa using hp)
        have ed : xs.drop i = p :: xs.drop (i + 1) := by
          obtain ⟨hi, rfl⟩ := List.getElem?_eq_some_iff.mp hp2
          exact List.drop_eq_getElem_cons hi
        rw [ed] at h1
        rw [wrongs_cons] at h1
        simp
        refine ⟨row, p, ⟨rfl, rfl⟩, ?_⟩
        cases hb : demB row.length p with
        | true =>
          rw [if_pos hb] at h1
          simp
          exact (hn _ ⟨_, _, rfl, h1⟩).1
        | false =>
          rw [if_neg (by rw [hb]; simp)] at h1
          rw [h1] at q
          simpa using q
      · obtain ⟨x, y, rfl, h1⟩ := iv
        rw [List.drop_of_length_le (by simp [enumP_len])] at h1
        rw [h1] at q
        simpa [wrongs] using q
    · rw [if_neg h30] at q
      rw [if_pos (by omega)]
      exact q
  all_goals (simp [t_demands_error, demErr] at q ⊢; try exact q)
/-! ### what is drawn -/
@[simp] def S_g_row (r : Addr) : SV
  | [.raw v, .py (.int m)], Q, _ => v = .ref r ∧ 1 ≤ m ∧ m ≤ 40 ∧ ∀ gs : List Int, gs ≠ [] → gs.length ≤ m → (∀ g ∈ gs, 0 ≤ g ∧ g ≤ 1000000000) → Q (.py (tI gs))
  | _, _, _ => False
theorem l_g_row (r : Addr) : ∀ ds Q E, S_g_row r ds Q E → t_g_row (svTake r) (envOf 7 ds) (fin Q E)
  | [.raw v, .py (.int m)], Q, E, ⟨hv, h1, h2, q⟩ => by
    subst hv
    simp [t_g_row, -forGo]
    refine ⟨by omega, by omega, fun x x0 x1 y y0 y1 => ⟨by omega, ?_⟩⟩
    rw [rangeP_eq]
    refine for_enc (encR 0) (fun i ρ => ∃ (gs : List Int) (a b : VL.Slot), ρ = [.shr (.raw (.ref r)), .shr (.py (.int m)), .shr (.py (.int (1 + x))), .shr (.py (.int y)), .own (.py (.list (gs.map .int))), a, b] ∧ gs.length = i ∧ ∀ g ∈ gs, 0 ≤ g ∧ g ≤ 1000000000) ⟨[], _, _, rfl, rfl, by simp⟩ (fun i k ρ hk iv nx ct hn => ?_) (fun ρ iv => ?_)
    · obtain ⟨gs, a, b, rfl, el, hg⟩ := iv
      obtain ⟨rfl, hk⟩ := range_get hk
      simp
      intro a0 a1 a2
      have hf : 0 ≤ (1 + x).fdiv 3 ∧ (1 + x).fdiv 3 ≤ 40 := by rw [Int.fdiv_eq_ediv_of_nonneg _ (by omega)]; omega
      refine ⟨by omega, by omega, fun b0 b1 b2 c0 c1 c2 => ?_⟩
      obtain ⟨d, hd, hm⟩ := atI_ok (xs := [PyData.int 7, PyData.int a0, PyData.int b0, PyData.int (k : Nat), PyData.int (1000000000 - c0)]) (i := y) (by omega) (by simp; omega)
      refine ⟨d, hd, by omega, ?_⟩
      obtain ⟨g, rfl, hg1⟩ : ∃ g, d = .int g ∧ 0 ≤ g ∧ g ≤ 1000000000 := by
        simp only [List.mem_cons, List.not_mem_nil, or_false] at hm
        rcases hm with rfl | rfl | rfl | rfl | rfl
        · exact ⟨_, rfl, by omega, by omega⟩
        · exact ⟨_, rfl, by omega, by omega⟩
        · exact ⟨_, rfl, by omega, by omega⟩
        · exact ⟨_, rfl, by omega, by omega⟩
        · exact ⟨_, rfl, by omega, by omega⟩
      exact (hn _ ⟨gs ++ [g], .shr (.py (.int (k : Nat))), .shr (.py (.list [PyData.int 7, PyData.int a0, PyData.int b0, PyData.int (k : Nat), PyData.int (1000000000 - c0)])), by simp, by simp [el], fun z hz => by
        rcases List.mem_append.mp hz with h | h
        · exact hg z h
        · rw [List.mem_singleton.mp h]; exact hg1⟩).1
    · obtain ⟨gs, a, b, rfl, el, hg⟩ := iv
      simp at el ⊢
      exact q gs (fun e => by subst e; simp at el; omega) (by omega) hg
/-- a demand: soon or late, the person, the other one -/
def demT (k : Bool) (x y : Nat) : PyData := .tuple [.str (if k then Str.ofString "soon" else Str.ofString "late"), pN x, pN y]
@[simp] def S_g_demand (r : Addr) : SV := fun ds Q _ => ∃ row : List Int, ds = [.raw (.ref r), .py (tI row)] ∧ row ≠ [] ∧ row.length ≤ 40 ∧ ∀ k x y, x < row.length → y < row.length → Q (.py (demT k x y))
theorem l_g_demand (r : Addr) : ∀ ds Q E, S_g_demand r ds Q E → t_g_demand (svTake r) (envOf 3 ds) (fin Q E) := by
  rintro ds Q E ⟨row, rfl, h0, h1, q⟩
  have hp : 0 < row.length := List.length_pos_iff.mpr h0
  simp [t_g_demand]
  intro k k0 k1
  obtain ⟨d, hd, hm⟩ := atI_ok (xs := [PyData.str (Str.ofString "soon"), PyData.str (Str.ofString "late")]) (i := k) (by omega) (by simp; omega)
  refine ⟨d, hd, hp, by omega, fun x x0 x1 => ⟨hp, by omega, fun y y0 y1 => ?_⟩⟩
  obtain ⟨x, rfl⟩ : ∃ n : Nat, x = n := ⟨x.toNat, by omega⟩
  obtain ⟨y, rfl⟩ : ∃ n : Nat, y = n := ⟨y.toNat, by omega⟩
  simp only [List.mem_cons, List.not_mem_nil, or_false] at hm
  rcases hm with rfl | rfl
  · exact q true x y (by omega) (by omega)
  · exact q false x y (by omega) (by omega)
def oddsG : List PyData := [.none, .bool true, .bool false, .int (-1), .int 0, .int 1, .int 40, .int (10 ^ 39), .str "", .str "soon", .str "late", .str "as", .tuple [], .list [], .dict [], .tuple [.int 0], .list [.int 0], .tuple [.bool true], .tuple [.str "soon", .int 0, .int 0], .tuple [.str "late", .int 0], .tuple [.str "Soon", .int 0, .int 0], .tuple [.tuple [.str "soon", .int 0, .int 0]]]
@[simp] def S_g_odd (r : Addr) : SV
  | [.raw v], Q, _ => v = .ref r ∧ ∀ p ∈ oddsG, Q (.py p)
  | _, _, _ => False
end LawP
set_option Elab.async false
set_option linter.all false
set_option maxRecDepth 100000
set_option maxHeartbeats 4000000
namespace LawP
open PySem PySem.Spec PyProof.Rows L2 VL
def t_g_word (S_law_tooth : SV) : VS :=
  (sSeq (sPar [2, 3, 4, 5] (mCons false (vC (.py (.str ""))) (mCons false (vC (.py (.int 0))) (mCons false (vVar 1) (mCons false (vCall S_law_tooth (vCons (vVar 0) (vCons (vC (.py (.int 4))) vNil))) mNil)))))
  (sSeq (sWhile (vTst (vBin gGt (vBin gAdd (vBor 4) (vBor 3)) (vC (.py (.int 0)))))
  (sSeq (sSet 6 (vCall S_law_tooth (vCons (vVar 0) (vCons (vBin gIx (vLst (vCons (vC (.py (.int 2))) (vCons (vC (.py (.int 3))) (vCons (vC (.py (.int 7))) (vCons (vC (.py (.int 2))) vNil))))) (vBor 5)) vNil))))
  (sSeq (sSet 7 (vBin gIx (vLst (vCons (vBin gEq (vBor 6) (vC (.py (.int 0)))) (vCons (vBin gGt (vBor 6) (vC (.py (.int 0)))) (vCons (vBin gEq (vBor 6) (vC (.py (.int 0)))) (vCons (vAnd (vBin gGt (vBor 3) (vC (.py (.int 2)))) (vBin gEq (vBor 6) (vC (.py (.int 0))))) vNil))))) (vBor 5)))
  (sIf (wAnd (vTst (vBin gGt (vBor 3) (vC (.py (.int 0))))) (wOr (vTst (vBin gEq (vBor 4) (vC (.py (.int 0))))) (vTst (vBor 7))))
  (sPar [2, 3] (mCons false (vBin gAdd (vBor 2) (vC (.py (.str "s")))) (mCons false (vBin gSub (vBor 3) (vC (.py (.int 1)))) mNil)))
  (sPar [2, 3, 4] (mCons false (vBin gAdd (vBor 2) (vC (.py (.str "a")))) (mCons false (vBin gAdd (vBor 3) (vC (.py (.int 1)))) (mCons false (vBin gSub (vBor 4) (vC (.py (.int 1)))) mNil))))))))
  (sRet (vVar 2))))
def t_g_events : VS :=
  (sSeq (sPar [2, 3, 4, 5] (mCons true (vLst vNil) (mCons true (vLst vNil) (mCons true (vBin gRepL (vLst (vCons (vC (.py (.int 0))) vNil)) (vCal gLen (vCons (vBor 0) vNil))) (mCons true (vLst vNil) mNil)))))
  (sSeq (sFor (iEn (vCons (vVar 1) vNil)) (tgTup 2 (tgCons (tgName 6) (tgCons (tgName 7) tgNil)))
  (sIf (vTst (vBin gEq (vBor 7) (vC (.py (.str "a")))))
  (sSeq (sSet 8 (vCal gLen (vCons (vBor 3) vNil)))
  (sSeq (sSet 9 (vLc [11] (iS (vBor 2)) (tgName 11) (vTst (vBin gEq (vBin gIx (vBor 0) (vBor 11)) (vBin gIx (vBor 0) (vBor 8)))) (vVar 11)))
  (sSeq (sSet 10 (vIf (vTst (vBin gNe (vBor 9) (vLst vNil))) (vBin gAdd (vMth isSq gIndex (vBor 2) (vCons (vBin gIx (vBor 9) (vUn gNeg (vC (.py (.int 1))))) vNil)) (vC (.py (.int 1)))) (vCal gLen (vCons (vBor 2) vNil))))
  (sSeq (sMut 2 gIns (vCons (vVar 10) (vCons (vVar 8) vNil)))
  (sMut 3 gApp (vCons (vVar 6) vNil))))))
  (sSeq (sPopSet 8 2 (vC (.py (.int 0))))
  (sSeq (sStoL 4 (vVar 8) (vVar 6))
  (sMut 5 gApp (vCons (vVar 8) vNil))))))
  (sFrz 4 (sFrz 3 (sRet (vLst (vCons (vVar 3) (vCons (vVar 4) (vCons (vCal gTuple (vCons (vBor 5) vNil)) vNil)))))))))
def t_g_meets : VS :=
  (sSeq (sAsg (vVar 1) (tgTup 3 (tgCons (tgName 2) (tgCons (tgName 3) (tgCons (tgName 4) tgNil)))))
  (sRet (vBin gEq (vBin gLt (vBin gIx (vBin gIx (vBor 0) (vC (.py (.int 0)))) (vBor 3)) (vBin gIx (vBin gIx (vBor 0) (vC (.py (.int 1)))) (vBor 4))) (vBin gEq (vBor 2) (vC (.py (.str "soon")))))))
def t_g_demands (S_law_tooth : SV) (S_g_demand : SV) (S_g_meets : SV) : VS :=
  (sSeq (sSetN 4 (vLst vNil))
  (sSeq (sFor (iR1 (vCons (vCall S_law_tooth (vCons (vVar 0) (vCons (vBin gAdd (vBor 3) (vC (.py (.int 1)))) vNil))) vNil)) (tgName 5)
  (sSeq (sSet 6 (vCall S_g_demand (vCons (vVar 0) (vCons (vVar 1) vNil))))
  (sSeq (sIf (wAnd (wNot (vTst (vCall S_g_meets (vCons (vVar 2) (vCons (vVar 6) vNil))))) (vTst (vBin gGt (vCall S_law_tooth (vCons (vVar 0) (vCons (vC (.py (.int 5))) vNil))) (vC (.py (.int 0))))))
  (sSet 6 (vTup (vCons (vBin gIx (vLst (vCons (vC (.py (.str "soon"))) (vCons (vC (.py (.str "late"))) vNil))) (vCal gInt (vCons (vBin gEq (vBin gIx (vBor 6) (vC (.py (.int 0)))) (vC (.py (.str "soon")))) vNil))) (vCons (vBin gIx (vBor 6) (vC (.py (.int 1)))) (vCons (vBin gIx (vBor 6) (vC (.py (.int 2)))) vNil)))))
  sNext)
  (sMut 4 gApp (vCons (vVar 6) vNil)))))
  (sRet (vCal gTuple (vCons (vBor 4) vNil)))))
def t_require_demands (S_demands_error : SV) : VS :=
  (sSeq (sSet 2 (vCall S_demands_error (vCons (vVar 0) (vCons (vVar 1) vNil))))
  (sIf (vTst (vBin (gIsN true) (vBor 2) (vC (.py .none))))
  (sRaise1 "BadDemand" "index" (vBin gIx (vBor 2) (vC (.py (.int 0)))))
  sNext))
def t_places_of (S_is_person : SV) : VS :=
  (sSeq (sIf (wOr (wNot (vTst (vCal gIsi (vCons (vBor 1) (vCons (vC (.raw (.ty "tuple"))) vNil))))) (wNot (vTst (vCal gAll (vCons (vLc [2] (iS (vBor 1)) (tgName 2) wYes (vCall S_is_person (vCons (vVar 0) (vCons (vVar 2) vNil)))) vNil)))))
  (sRaise0 "NoOrder")
  sNext)
  (sSeq (sIf (vTst (vBin gNe (vCal gSorted (vCons (vBor 1) vNil)) (vLstRg (vCal gLen (vCons (vBor 0) vNil)))))
  (sRaise0 "NoOrder")
  sNext)
  (sRet (vLc [2] (iR1 (vCons (vCal gLen (vCons (vBor 0) vNil)) vNil)) (tgName 2) wYes (vMth isSq gIndex (vBor 1) (vCons (vBor 2) vNil))))))
end LawP
set_option Elab.async false
set_option linter.all false
set_option maxRecDepth 100000
set_option maxHeartbeats 4000000
namespace LawP
open PySem PySem.Spec PyProof.Rows L2 VL
end LawP
set_option Elab.async false
set_option linter.all false
set_option maxRecDepth 100000
set_option maxHeartbeats 4000000
namespace LawP
open PySem PySem.Spec PyProof.Rows L2 VL
end LawP
set_option Elab.async false
set_option linter.all false
set_option maxRecDepth 100000
set_option maxHeartbeats 4000000
namespace LawP
open PySem PySem.Spec PyProof.Rows L2 VL
end LawP
set_option Elab.async false
set_option linter.all false
set_option maxRecDepth 100000
set_option maxHeartbeats 4000000
namespace LawP
open PySem PySem.Spec PyProof.Rows L2 VL
/-! ### orders, plainly -/
def rngI (n : Nat) : List Int := (List.range n).map fun i : Nat => (i : Int)
theorem rngI_len (n : Nat) : (rngI n).length = n := by simp [rngI]
theorem rngI_lt (n : Nat) : (rngI n).Pairwise (· < ·) := by
  unfold rngI
  rw [List.pairwise_map]
  exact List.pairwise_lt_range.imp fun h => by omega
theorem rngI_sorted (n : Nat) : (rngI n).Pairwise (· ≤ ·) := (rngI_lt n).imp fun h => by omega
theorem rngI_mem {n : Nat} {j : Int} : j ∈ rngI n ↔ 0 ≤ j ∧ j < n := by
  unfold rngI
  rw [List.mem_map]
  constructor
  · rintro ⟨i, hi, rfl⟩
    have := List.mem_range.mp hi
    omega
  · rintro ⟨h1, h2⟩
    exact ⟨j.toNat, List.mem_range.mpr (by omega), by omega⟩
def isIntJ (p : PyData) (lo hi : Int) : Bool := match p with
  | .int i => decide (lo ≤ i) && decide (i ≤ hi)
  | _ => false
@[simp] def S_is_number : SV
  | [.py p, .py (.int lo), .py (.int hi)], Q, _ => Q (.py (.bool (isIntJ p lo hi)))
  | _, _, _ => False
/-- is it an order of n persons? -/
def ordB (n : Nat) (p : PyData) : Bool := match p with
  | .tuple xs => decide (xs.length = n) && (match VL.allI xs with
    | some ns => decide (sortI ns = rngI n)
    | none => false)
  | _ => false
@[simp] def S_is_order : SV := fun ds Q _ => ∃ (row : List Int) (p : PyData), ds = [.py (tI row), .py p] ∧ row ≠ [] ∧ row.length ≤ 40 ∧ Q (.py (.bool (ordB row.length p)))
theorem ints_eqv : ∀ (a b : List Int), PyData.eqvAll (a.map PyData.int) (b.map PyData.int) = decide (a = b)
  | [], [] => by simp [PyData.eqvAll]
  | [], _ :: _ => by simp [PyData.eqvAll]
  | _ :: _, [] => by simp [PyData.eqvAll]
  | x :: a, y :: b => by
    have := ints_eqv a b
    simp [PyData.eqvAll, this]
    by_cases h : x = y <;> simp [h]
theorem rangeP_rng (n : Nat) : rangeP 0 n = (rngI n).map PyData.int := by
  rw [rangeP_ints]; unfold rngI; simp
theorem rng_cons {n : Nat} (h : 0 < n) : ∃ x r, rngI n = x :: r := by
  cases e : rngI n with
  | nil => have := rngI_len n; rw [e] at this; simp at this; omega
  | cons x r => exact ⟨x, r, rfl⟩
theorem depth_ints : ∀ ns : List Int, PyData.depthAll (ns.map PyData.int) = 0
  | [] => rfl
  | n :: ns => by simp [PyData.depthAll, PyData.depth, depth_ints ns]
@[simp] def S_j_row (r : Addr) : SV
  | [.raw v, .py (.int m)], Q, _ => v = .ref r ∧ 1 ≤ m ∧ m ≤ 40 ∧ ∀ gs : List Int, gs ≠ [] → gs.length ≤ m → (∀ g ∈ gs, 0 ≤ g ∧ g ≤ 1000000000) → Q (.py (tI gs))
  | _, _, _ => False
@[simp] def S_j_mixed (r : Addr) : SV := fun ds Q _ => ∃ (xs : List PyData) (p : PyData), ds = [.raw (.ref r), .py p] ∧ (p = .list xs ∨ p = .tuple xs) ∧ xs.length ≤ 1000 ∧ ∀ ys : List PyData, ys.Perm xs → Q (.py (.tuple ys))
end LawP
set_option Elab.async false
set_option linter.all false
namespace LawP
open PySem VL
/-! ### the queue: the mathematics -/
/-- p stands at place i -/
def insAt (ws : List Nat) (i p : Nat) : List Nat := ws.take i ++ p :: ws.drop i
/-- where p joins: behind the mate, or at the end -/
def joinPl (ws : List Nat) (m : Option Nat) : Nat := match m with
  | some k => if k ∈ ws then ws.idxOf k + 1 else ws.length
  | none => ws.length
def joinQ (ws : List Nat) (p : Nat) (m : Option Nat) : List Nat := insAt ws (joinPl ws m) p
theorem mem_insAt {ws : List Nat} {i p x : Nat} : x ∈ insAt ws i p ↔ x = p ∨ x ∈ ws := by
  unfold insAt
  rw [List.mem_append, List.mem_cons]
  constructor
  · rintro (h | h | h)
    · exact .inr (List.mem_of_mem_take h)
    · exact .inl h
    · exact .inr (List.mem_of_mem_drop h)
  · rintro (h | h)
    · exact .inr (.inl h)
    · rw [← List.take_append_drop i ws] at h
      exact (List.mem_append.mp h).elim .inl fun h => .inr (.inr h)
theorem insAt_len (ws : List Nat) (i p : Nat) : (insAt ws i p).length = ws.length + 1 := by
  unfold insAt
  rw [List.length_append, List.length_cons, List.length_take, List.length_drop]
  omega
theorem joinQ_len (ws : List Nat) (p : Nat) (m : Option Nat) : (joinQ ws p m).length = ws.length + 1 := insAt_len _ _ _
/-- members of a group stand in the order of their arrival, and who came behind a waiting one waits, too -/
structure QInv (row : List Int) (a : Nat) (ws : List Nat) : Prop where
  lt : ∀ x ∈ ws, x < a
  up : ∀ x ∈ ws, ∀ y, x < y → y < a → row[x]? = row[y]? → y ∈ ws
  ord : ws.Pairwise fun x y => row[x]? = row[y]? → x < y
  nd : ws.Nodup
theorem QInv.nil (row : List Int) (a : Nat) : QInv row a [] := ⟨by simp, by simp, .nil, .nil⟩
theorem QInv.serve {row : List Int} {a x : Nat} {ws : List Nat} (h : QInv row a (x :: ws)) : QInv row a ws := by
  obtain ⟨h1, h2, h3, h4⟩ := h
  rw [List.pairwise_cons] at h3
  rw [List.nodup_cons] at h4
  refine ⟨fun y hy => h1 y (List.mem_cons_of_mem _ hy), fun y hy z l1 l2 e => ?_, h3.2, h4.2⟩
  rcases List.mem_cons.mp (h2 y (List.mem_cons_of_mem _ hy) z l1 l2 e) with rfl | h
  · have := h3.1 y hy e.symm
    omega
  · exact h
theorem pair_idx {row : List Int} {ws : List Nat} {k x : Nat} (hp : ws.Pairwise fun x y => row[x]? = row[y]? → x < y) (hk : k ∈ ws) (h : x ∈ ws.drop (ws.idxOf k + 1)) (e : row[k]? = row[x]?) : k < x := by
  obtain ⟨j, hj, ej⟩ := List.mem_iff_getElem.mp h
  rw [List.getElem_drop] at ej
  rw [List.length_drop] at hj
  have hi := List.idxOf_lt_length_of_mem hk
  have e2 : ws[ws.idxOf k] = k := List.getElem_idxOf hi
  have := List.pairwise_iff_getElem.mp hp (ws.idxOf k) (ws.idxOf k + 1 + j) hi (by omega) (by omega)
  rw [e2, ej] at this
  exact this e
theorem QInv.mate_in {row : List Int} {a x : Nat} {ws : List Nat} {g : Int} (h : QInv row a ws) (hg : row[a]? = some g) (hx : x ∈ ws) (e : row[x]? = some g) : ∃ m, lastIn row g a = some m ∧ m ∈ ws := by
  have hxa := h.lt x hx
  cases hm : lastIn row g a with
  | none => exact absurd e (lastIn_none hm x hxa)
  | some m =>
    obtain ⟨m1, m2, m3⟩ := lastIn_some hm
    refine ⟨m, rfl, ?_⟩
    rcases Nat.lt_trichotomy x m with l | l | l
    · exact h.up x hx m l m1 (by rw [e, m2])
    · rw [← l]; exact hx
    · exact absurd e (m3 x l hxa)
theorem QInv.join {row : List Int} {a : Nat} {ws : List Nat} {g : Int} (h : QInv row a ws) (hg : row[a]? = some g) : QInv row (a + 1) (joinQ ws a (mateOf row a)) := by
  have hna : a ∉ ws := fun m => by have := h.lt a m; omega
  have same : ∀ i, (∀ x ∈ ws.drop i, row[x]? ≠ row[a]?) → QInv row (a + 1) (insAt ws i a) := fun i hd => by
    refine ⟨fun x hx => ?_, fun x hx y l1 l2 e => ?_, ?_, ?_⟩
    · rcases mem_insAt.mp hx with rfl | hx
      · omega
      · have := h.lt x hx; omega
    · rcases mem_insAt.mp hx with rfl | hx
      · omega
      · by_cases ey : y = a
        · exact mem_insAt.mpr (.inl ey)
        · exact mem_insAt.mpr (.inr (h.up x hx y l1 (by omega) e))
    · unfold insAt
      have hp := h.ord
      rw [← List.take_append_drop i ws, List.pairwise_append] at hp
      rw [List.pairwise_append, List.pairwise_cons]
      refine ⟨hp.1, ⟨fun x hx e => absurd e.symm (hd x hx), hp.2.1⟩, fun x hx y hy e => ?_⟩
      rcases List.mem_cons.mp hy with rfl | hy
      · exact h.lt x (List.mem_of_mem_take hx)
      · exact hp.2.2 x hx y hy e
    · unfold insAt
      have hp := h.nd
      rw [← List.take_append_drop i ws, List.nodup_append] at hp
      rw [List.nodup_append, List.nodup_cons]
      refine ⟨hp.1, ⟨fun m => hna (List.mem_of_mem_drop m), hp.2.1⟩, fun x hx y hy e => ?_⟩
      rcases List.mem_cons.mp hy with rfl | hy
      · exact hna (by rw [← e]; exact List.mem_of_mem_take hx)
      · exact hp.2.2 x hx y hy e
  unfold joinQ
  rw [mateOf_at hg]
  cases hm : lastIn row g a with
  | none =>
    exact same _ (by unfold joinPl; simp)
  | some m =>
    obtain ⟨m1, m2, m3⟩ := lastIn_some hm
    unfold joinPl
    simp only
    split
    · rename_i hmw
      refine same _ fun x hx e => ?_
      rw [hg] at e
      have := pair_idx h.ord hmw hx (by rw [m2, e])
      exact m3 x this (h.lt x (List.mem_of_mem_drop hx)) e
    · refine same _ (by simp)
/-- those of a's group who wait -/
def alike (row : List Int) (ws : List Nat) (a : Nat) : List Nat := ws.filter fun x => row[x]? == row[a]?
theorem alike_last {row : List Int} {a : Nat} {ws : List Nat} {g : Int} (h : QInv row a ws) (hg : row[a]? = some g) : joinPl ws (mateOf row a) = match (alike row ws a).getLast? with
    | some m => ws.idxOf m + 1
    | none => ws.length := by
  rw [mateOf_at hg]
  have mem : ∀ x, x ∈ alike row ws a ↔ x ∈ ws ∧ row[x]? = some g := fun x => by
    unfold alike
    rw [List.mem_filter, hg]
    simp
  cases hl : (alike row ws a).getLast? with
  | none =>
    have e : alike row ws a = [] := List.getLast?_eq_none_iff.mp hl
    simp only
    cases hm : lastIn row g a with
    | none => rfl
    | some m =>
      obtain ⟨m1, m2, m3⟩ := lastIn_some hm
      unfold joinPl
      simp only
      rw [if_neg]
      intro hmw
      have := (mem m).mpr ⟨hmw, m2⟩
      rw [e] at this; simp at this
  | some L =>
    simp only
    have hL : L ∈ alike row ws a := List.mem_of_getLast? hl
    obtain ⟨L1, L2⟩ := (mem L).mp hL
    obtain ⟨m, hm, hmw⟩ := h.mate_in hg L1 L2
    obtain ⟨m1, m2, m3⟩ := lastIn_some hm
    have hmA := (mem m).mpr ⟨hmw, m2⟩
    have e : m = L := by
      obtain ⟨pre, hpre⟩ : ∃ pre, alike row ws a = pre ++ [L] := by
        obtain ⟨ys, hys⟩ := List.getLast?_eq_some_iff.mp hl
        exact ⟨ys, hys⟩
      have hord : (alike row ws a).Pairwise fun x y => row[x]? = row[y]? → x < y := h.ord.sublist List.filter_sublist
      rw [hpre] at hmA hord
      rcases List.mem_append.mp hmA with h' | h'
      · have := (List.pairwise_append.mp hord).2.2 m h' L (by simp) (by rw [m2, L2])
        exact absurd L2 (m3 L this (h.lt L L1))
      · simpa using h'
    subst e
    rw [hm]
    unfold joinPl
    simp only
    rw [if_pos hmw]
/-! ### words done -/
/-- a beginning of a history, behind a arrivals and s services -/
def okP (n : Nat) : Nat → Nat → List Nat → Prop
  | _, _, [] => True
  | a, s, c :: w => (c = 97 ∧ a < n ∧ okP n (a + 1) s w) ∨ (c = 115 ∧ s < a ∧ okP n a (s + 1) w)
/-- letter, person, waiting: for each letter -/
def stepsL (row : List Int) : Nat → List Nat → List Nat → List (Nat × Nat × List Nat)
  | _, _, [] => []
  | a, ws, c :: w => if c = 97 then (c, a, joinQ ws a (mateOf row a)) :: stepsL row (a + 1) (joinQ ws a (mateOf row a)) w else match ws with
    | x :: ws' => (c, x, ws') :: stepsL row a ws' w
    | [] => []
theorem stepsL_a (row : List Int) (a : Nat) (ws w : List Nat) : stepsL row a ws (97 :: w) = (97, a, joinQ ws a (mateOf row a)) :: stepsL row (a + 1) (joinQ ws a (mateOf row a)) w := rfl
theorem stepsL_s (row : List Int) (a x : Nat) (ws w : List Nat) : stepsL row a (x :: ws) (115 :: w) = (115, x, ws) :: stepsL row a ws w := rfl
/-- who was served -/
def servedL (st : List (Nat × Nat × List Nat)) : List Nat := (st.filter fun p => p.1 == 115).map fun p => p.2.1
/-- who waits at the end -/
def waitL (st : List (Nat × Nat × List Nat)) : List Nat := match st.getLast? with
  | some p => p.2.2
  | none => []
end LawP
set_option Elab.async false
set_option linter.all false
namespace VL
open PySem PySem.Spec PyProof.Rows L2 HT
@[simp] theorem atI_one {α : Type} (x y : α) (xs : List α) : atI (x :: y :: xs) 1 = some y := by have := @atI_nat _ (x :: y :: xs) 1 _ rfl; exact this
@[simp] theorem atI_two {α : Type} (x y z : α) (xs : List α) : atI (x :: y :: z :: xs) 2 = some z := by have := @atI_nat _ (x :: y :: z :: xs) 2 _ rfl; exact this
@[simp] theorem atI_three {α : Type} (x y z u : α) (xs : List α) : atI (x :: y :: z :: u :: xs) 3 = some u := by have := @atI_nat _ (x :: y :: z :: u :: xs) 3 _ rfl; exact this
end VL
namespace LawP
open PySem VL
/-! ### lists of persons -/
theorem pn_plain (ws : List Nat) : PyData.plainAll (ws.map pN) = true := by
  have : ws.map pN = (ws.map fun (n : Nat) => (n : Int)).map PyData.int := by rw [List.map_map]; rfl
  rw [this, plainAll_ints]
theorem pn_depth (ws : List Nat) : PyData.depthAll (ws.map pN) = 0 := by
  induction ws with
  | nil => rfl
  | cons w ws ih => rw [List.map_cons, depthAll_cons, ih]; rfl
theorem pn_ix {ws : List Nat} {k : Nat} (h : k ∈ ws) : ixOf (ws.map pN) (.int (k : Int)) = some (ws.idxOf k) := by
  induction ws with
  | nil => simp at h
  | cons w ws ih =>
    rw [List.map_cons, ixOf, List.idxOf_cons]
    by_cases e : w = k
    · have e1 : (pN w).eqv (.int (k : Int)) = true := by subst e; simp [pN]
      rw [if_pos e1, e]; simp
    · have e1 : ¬ (pN w).eqv (.int (k : Int)) = true := by simp [pN]; omega
      have e2 : (w == k) = false := beq_eq_false_iff_ne.mpr e
      have hk : k ∈ ws := by rcases List.mem_cons.mp h with h | h; exact absurd h.symm e; exact h
      rw [if_neg e1, ih hk, e2]; rfl
theorem drop_at' {α : Type} {w : List α} {k : Nat} {c : α} (hc : w[k]? = some c) : w.drop k = c :: w.drop (k + 1) := by
  have hk := (List.getElem?_eq_some_iff.mp hc).1
  rw [List.drop_eq_getElem_cons hk]
  congr 1
  exact (List.getElem?_eq_some_iff.mp hc).2
theorem eqv_pN : ∀ a b : List Nat, PyData.eqvAll (a.map pN) (b.map pN) = decide (a = b)
  | [], [] => rfl
  | [], _ :: _ => rfl
  | _ :: _, [] => rfl
  | x :: a, y :: b => by
    rw [List.map_cons, List.map_cons, PyData.eqvAll, eqv_pN a b]
    have : (pN x).eqv (pN y) = decide (x = y) := by
      simp [pN]
      rw [Bool.eq_iff_iff]
      simp
      omega
    rw [this]
    by_cases h : x = y <;> simp [h]
theorem geq_tN {a b : List Nat} {Q : D → Prop} (q : Q (.py (.bool (decide (a = b))))) : gEq (.py (tN a)) (.py (tN b)) Q := by
  cases b with
  | nil => cases a <;> simpa [gEq] using q
  | cons y b =>
    have := eqv_pN a (y :: b)
    simp [gEq, pn_plain, pn_depth, PyData.plain, PyData.plainAll, PyData.depth, PyData.depthAll, PyData.eqv] at *
    rw [this]
    exact ⟨rfl, q⟩
/-! ### what a word leads to -/
/-- the order of service -/
def ordL (row : List Int) (w : List Nat) : List Nat := servedL (stepsL row 0 [] w)
/-- the mate waits -/
def joinB (row : List Int) (ws : List Nat) (a : Nat) : Bool := match mateOf row a with
  | some m => decide (m ∈ ws)
  | none => false
/-- who joins the mate -/
def joinsL (row : List Int) : Nat → List Nat → List Nat → List Nat
  | _, _, [] => []
  | a, ws, c :: w => if c = 97 then (if joinB row ws a = true then [a] else []) ++ joinsL row (a + 1) (joinQ ws a (mateOf row a)) w else joinsL row a ws.tail w
/-- services before each arrival -/
def cntsL : Nat → List Nat → List Nat
  | _, [] => []
  | s, c :: w => if c = 97 then s :: cntsL s w else cntsL (s + 1) w
theorem cntsL_a (s : Nat) (w : List Nat) : cntsL s (97 :: w) = s :: cntsL s w := rfl
theorem cntsL_s (s : Nat) (w : List Nat) : cntsL s (115 :: w) = cntsL (s + 1) w := rfl
theorem servedL_a (x : Nat) (y : List Nat) (L : List (Nat × Nat × List Nat)) : servedL ((97, x, y) :: L) = servedL L := by simp [servedL]
theorem servedL_s (x : Nat) (y : List Nat) (L : List (Nat × Nat × List Nat)) : servedL ((115, x, y) :: L) = x :: servedL L := by simp [servedL]
theorem joinQ_perm (ws : List Nat) (a : Nat) (m : Option Nat) : (joinQ ws a m).Perm (a :: ws) := by
  unfold joinQ insAt
  refine List.perm_middle.trans ?_
  rw [List.take_append_drop]
theorem goodW_okP {n : Nat} : ∀ {w : List Nat} {a s : Nat}, goodW n a s w → okP n a s w
  | [], _, _, _ => trivial
  | c :: w, a, s, h => by
    rcases h with ⟨e, ha, h⟩ | ⟨e, ha, h⟩
    · exact .inl ⟨e, ha, goodW_okP h⟩
    · exact .inr ⟨e, ha, goodW_okP h⟩
theorem served_perm {row : List Int} {n : Nat} : ∀ {w : List Nat} {a s : Nat} {ws : List Nat}, goodW n a s w → ws.length + s = a → a ≤ n → (servedL (stepsL row a ws w)).Perm (ws ++ List.range' a (n - a))
  | [], a, s, ws, ⟨h1, h2⟩, e, h3 => by
    have : ws = [] := List.length_eq_zero_iff.mp (by omega)
    subst this h1
    simp [stepsL, servedL]
  | c :: w, a, s, ws, h, e, h3 => by
    rcases h with ⟨rfl, ha, h⟩ | ⟨rfl, ha, h⟩
    · rw [stepsL_a, servedL_a]
      have ih := served_perm (row := row) (ws := joinQ ws a (mateOf row a)) h (by rw [joinQ_len]; omega) ha
      refine ih.trans ?_
      have e2 : n - a = (n - (a + 1)) + 1 := by omega
      rw [e2, List.range'_succ]
      refine ((joinQ_perm ws a _).append_right _).trans ?_
      rw [List.cons_append]
      exact List.perm_middle.symm
    · cases ws with
      | nil => simp at e; omega
      | cons x ws =>
        rw [stepsL_s, servedL_s, List.cons_append]
        exact (served_perm h (by simp at e; omega) h3).cons x
theorem ordL_perm {row : List Int} {w : List Nat} (h : HistW row.length w) : (ordL row w).Perm (List.range row.length) := by
  have := served_perm (row := row) (ws := []) h rfl (Nat.zero_le _)
  rwa [List.nil_append, Nat.sub_zero, ← List.range_eq_range'] at this
end LawP
set_option Elab.async false
set_option linter.all false
set_option maxRecDepth 100000
set_option maxHeartbeats 4000000
namespace LawP
open PySem PySem.Spec PyProof.Rows L2 VL
/-! ### orders as lists of persons -/
theorem tI_cast (ms : List Nat) : tI (ms.map fun (n : Nat) => (n : Int)) = tN ms := by
  unfold tI tN; rw [List.map_map]; rfl
theorem cast_toNat {ns : List Int} (pos : ∀ j ∈ ns, 0 ≤ j) : (ns.map Int.toNat).map (fun (n : Nat) => (n : Int)) = ns := by
  induction ns with
  | nil => rfl
  | cons x xs ih =>
    have h1 := pos x List.mem_cons_self
    have h2 := ih fun j hj => pos j (List.mem_cons_of_mem _ hj)
    rw [List.map_cons, List.map_cons, h2]
    congr 1
    omega
theorem rngI_nat (n : Nat) : (rngI n).map Int.toNat = List.range n := by
  unfold rngI
  rw [List.map_map]
  have : (Int.toNat ∘ fun (i : Nat) => (i : Int)) = id := by funext i; simp
  rw [this, List.map_id]
theorem ordB_iff {n : Nat} {p : PyData} : ordB n p = true ↔ ∃ ms : List Nat, p = tN ms ∧ ms.Perm (List.range n) := by
  constructor
  · intro h
    cases p <;> simp [ordB] at h
    rename_i xs
    obtain ⟨h1, h2⟩ := h
    cases e : VL.allI xs with
    | none => rw [e] at h2; cases h2
    | some ns =>
      rw [e] at h2
      simp at h2
      have ex := allI_of e
      have p : ns.Perm (rngI n) := by rw [← h2]; exact (sortI_perm ns).symm
      have pos : ∀ j ∈ ns, 0 ≤ j := fun j hj => (rngI_mem.mp ((p.mem_iff).mp hj)).1
      refine ⟨ns.map Int.toNat, ?_, ?_⟩
      · rw [← tI_cast, cast_toNat pos, ex]; rfl
      · rw [← rngI_nat n]
        exact p.map _
  · rintro ⟨ms, rfl, hp⟩
    have hl : ms.length = n := by have := hp.length_eq; simpa using this
    have hs : sortI (ms.map fun (k : Nat) => (k : Int)) = rngI n := (sortI_eq (hp.map _).symm (rngI_sorted n)).symm
    simp [ordB, tN, hl, allI_pN, hs]
theorem ordB_tN {ms : List Nat} {n : Nat} (h : ms.Perm (List.range n)) : ordB n (tN ms) = true := ordB_iff.mpr ⟨ms, rfl, h⟩
theorem perm_nodup {ms : List Nat} {n : Nat} (h : ms.Perm (List.range n)) : ms.Nodup := h.symm.nodup List.nodup_range
theorem perm_len {ms : List Nat} {n : Nat} (h : ms.Perm (List.range n)) : ms.length = n := by have := h.length_eq; simpa using this
theorem perm_mem {ms : List Nat} {n k : Nat} (h : ms.Perm (List.range n)) : k ∈ ms ↔ k < n := by rw [h.mem_iff]; exact List.mem_range
@[simp] def S_require_order : SV := fun ds Q E => ∃ (row : List Int) (p : PyData), ds = [.py (tI row), .py p] ∧ row ≠ [] ∧ row.length ≤ 40 ∧ (ordB row.length p = true → Q (.py .none)) ∧ (ordB row.length p = false → E ⟨"NoOrder", []⟩)
/-- the kind of a person -/
def kindS (near ahead : Bool) : Str := if near then (if ahead then "both" else "near") else (if ahead then "leads" else "none")
@[simp] def S_kind_of : SV
  | [.py (.bool a), .py (.bool b)], Q, _ => Q (.py (.str (kindS a b)))
  | _, _, _ => False
/-- pop and insert keep the persons -/
@[simp] def S_j_swapped (r : Addr) : SV := fun ds Q _ => ∃ ms : List Nat, ds = [.raw (.ref r), .py (tN ms)] ∧ ms ≠ [] ∧ ms.length ≤ 40 ∧ ∀ ns : List Nat, ns.Perm ms → Q (.py (tN ns))
/-! ### places -/
def placesL (ms : List Nat) : List Nat := (List.range ms.length).map fun k => ms.idxOf k
theorem idx_get {ms : List Nat} {k : Nat} (h : k ∈ ms) : ms[ms.idxOf k]? = some k := by
  have := List.idxOf_lt_length_of_mem h
  rw [List.getElem?_eq_getElem this]
  simp
@[simp] def S_places_in : SV := fun ds Q _ => ∃ (ms : List Nat) (b : Bool), ds = [.py (cond b (tN ms) (.list (ms.map pN)))] ∧ ms.length ≤ 40 ∧ ms.Perm (List.range ms.length) ∧ Q (.py (.list ((placesL ms).map pN)))
@[simp] theorem lit_aH : Str.ofString "a" = mkS [97] := by decide +kernel
@[simp] theorem lit_sH : Str.ofString "s" = mkS [115] := by decide +kernel
@[simp] theorem lit_0 : Str.ofString "" = mkS [] := by decide +kernel
@[simp] def S_j_word (r : Addr) : SV := fun ds Q _ => ∃ n : Nat, ds = [.raw (.ref r), .py (.int (n : Nat))] ∧ n ≤ 40 ∧ ∀ w, HistW n w → Q (.py (.str (mkS w)))
@[simp] def S_j_mate : SV := fun ds Q _ => ∃ (row : List Int) (i : Nat), ds = [.py (tI row), .py (.int (i : Nat))] ∧ i < row.length ∧ row.length ≤ 40 ∧ Q (.py (oN (mateOf row i)))
/-- the earlier ones of the group -/
def kin (row : List Int) (i : Nat) : List Nat := (List.range i).filter fun k => row[k]? == row[i]?
/-! ### the law's own queue -/
theorem idx_app {L : List Nat} {x : Nat} (h : x ∈ L) : L.idxOf x < L.length := List.idxOf_lt_length_of_mem h
@[simp] def S_j_run : SV := fun ds Q _ => ∃ (row : List Int) (w : List Nat), ds = [.py (tI row), .py (.str (mkS w))] ∧ row.length ≤ 40 ∧ w.length ≤ 1000 ∧ okP row.length 0 0 w ∧
  Q (.py (.list [tN (ordL row w), tN (joinsL row 0 [] w), tN (cntsL 0 w)]))
/-! ### kinds -/
def nearB (row : List Int) (ms : List Nat) (i : Nat) : Bool := match mateOf row i with
  | none => false
  | some m => decide (ms.idxOf i = ms.idxOf m + 1)
def leadB (ms : List Nat) (k : Nat) : Bool := (List.range k).all fun j => decide (ms.idxOf j < ms.idxOf k)
def kindL (row : List Int) (ms : List Nat) : List Str := (List.range row.length).map fun k => kindS (nearB row ms k) (leadB ms k)
theorem beq_succ (a b : Nat) : ((a : Int) == (b : Int) + 1) = decide (a = b + 1) := by
  by_cases c : a = b + 1
  · simp [c]
  · have : ¬ (a : Int) = (b : Int) + 1 := by omega
    simp [c, this]
theorem zip_range2 {n : Nat} (f g : Nat → PyData) : zip2P ((List.range n).map f) ((List.range n).map g) = (List.range n).map fun k => PyData.tuple [f k, g k] := by
  unfold zip2P
  rw [List.zip_map', List.map_map]
  rfl
@[simp] def S_j_leads : SV := fun ds Q _ => ∃ (ms : List Nat) (k : Nat), ds = [.py (tN ms), .py (.int (k : Nat))] ∧ ms.Perm (List.range ms.length) ∧ k < ms.length ∧ ms.length ≤ 40 ∧ Q (.py (.bool (leadB ms k)))
@[simp] def S_j_is_near : SV := fun ds Q _ => ∃ (row : List Int) (ms : List Nat) (i : Nat), ds = [.py (tI row), .py (tN ms), .py (.int (i : Nat))] ∧ i < row.length ∧ row.length ≤ 40 ∧ ms.Perm (List.range row.length) ∧ Q (.py (.bool (nearB row ms i)))
@[simp] def S_kinds_of : SV := fun ds Q E => ∃ (row : List Int) (p : PyData), ds = [.py (tI row), .py p] ∧ row ≠ [] ∧ row.length ≤ 40 ∧ (∀ ms, p = tN ms → ms.Perm (List.range row.length) → Q (.py (.tuple ((kindL row ms).map PyData.str)))) ∧ (ordB row.length p = false → E ⟨"NoOrder", []⟩)
end LawP
set_option Elab.async false
set_option linter.all false
set_option maxRecDepth 100000
set_option maxHeartbeats 4000000
namespace LawP
open PySem PySem.Spec PyProof.Rows L2 VL
/-! ### demands, plainly -/
def lowD (row : List Int) (ms : List Nat) (k : Nat) : Nat := match mateOf row k with
  | some m => if (!nearB row ms k && leadB ms k) = true then ms.idxOf m + 1 else 0
  | none => 0
def highD (row : List Int) (ms : List Nat) (k : Nat) : Nat := match mateOf row k with
  | some m => if (nearB row ms k && !leadB ms k) = true then ms.idxOf m else ms.idxOf k
  | none => ms.idxOf k
def lowsL (row : List Int) (ms : List Nat) : List Nat := (List.range row.length).map (lowD row ms)
def highsL (row : List Int) (ms : List Nat) : List Nat := (List.range row.length).map (highD row ms)
def wrongL (row : List Int) (ms : List Nat) : List Nat := (List.range row.length).filter fun k => !leadB ms k && !nearB row ms k
def clashRow (row : List Int) (ms : List Nat) (a : Nat) : List (Nat × Nat) := ((List.range (row.length - (a + 1))).filter fun j => decide (highD row ms (a + 1 + j) < lowD row ms a)).map fun j => (a, a + 1 + j)
def clashN (row : List Int) (ms : List Nat) (n : Nat) : List (Nat × Nat) := (List.range n).flatMap (clashRow row ms)
def clashL (row : List Int) (ms : List Nat) : List (Nat × Nat) := clashN row ms row.length
def pairP (p : Nat × Nat) : PyData := .tuple [pN p.1, pN p.2]
theorem matesL_map (row : List Int) : (matesL row).map oN = (List.range row.length).map fun k => oN (mateOf row k) := by
  unfold matesL; rw [List.map_map]; rfl
theorem placesL_map {ms : List Nat} {n : Nat} (h : ms.length = n) : (placesL ms).map pN = (List.range n).map fun k => pN (ms.idxOf k) := by
  unfold placesL; rw [h, List.map_map]; rfl
@[simp] def S_misplaced : SV := fun ds Q E => ∃ (row : List Int) (p : PyData), ds = [.py (tI row), .py p] ∧ row ≠ [] ∧ row.length ≤ 40 ∧ (∀ ms, p = tN ms → ms.Perm (List.range row.length) → Q (.py (tN (wrongL row ms)))) ∧ (ordB row.length p = false → E ⟨"NoOrder", []⟩)
@[simp] def S_least_counts : SV := fun ds Q E => ∃ (row : List Int) (p : PyData), ds = [.py (tI row), .py p] ∧ row ≠ [] ∧ row.length ≤ 40 ∧ (∀ ms, p = tN ms → ms.Perm (List.range row.length) → Q (.py (.list ((lowsL row ms).map pN)))) ∧ (ordB row.length p = false → E ⟨"NoOrder", []⟩)
@[simp] def S_greatest_counts : SV := fun ds Q E => ∃ (row : List Int) (p : PyData), ds = [.py (tI row), .py p] ∧ row ≠ [] ∧ row.length ≤ 40 ∧ (∀ ms, p = tN ms → ms.Perm (List.range row.length) → Q (.py (.list ((highsL row ms).map pN)))) ∧ (ordB row.length p = false → E ⟨"NoOrder", []⟩)
theorem places_at {ms : List Nat} {m : Nat} (h : m < ms.length) : atI ((placesL ms).map pN) (m : Int) = some (pN (ms.idxOf m)) := atI_map (by unfold placesL; rw [List.getElem?_map, List.getElem?_range h]; rfl)
/-! ### clashes -/
@[simp] def S_clashes : SV := fun ds Q E => ∃ (row : List Int) (p : PyData), ds = [.py (tI row), .py p] ∧ row ≠ [] ∧ row.length ≤ 40 ∧ (∀ ms, p = tN ms → ms.Perm (List.range row.length) → Q (.py (.tuple ((clashL row ms).map pairP)))) ∧ (ordB row.length p = false → E ⟨"NoOrder", []⟩)
/-! ### the law's own look -/
@[simp] def S_j_wrong : SV := fun ds Q _ => ∃ (row : List Int) (ms : List Nat), ds = [.py (tI row), .py (tN ms)] ∧ row.length ≤ 40 ∧ ms.Perm (List.range row.length) ∧ Q (.py (.list ((wrongL row ms).map pN)))
def demP (row : List Int) (ms : List Nat) (k : Nat) : PyData := .tuple [pN (lowD row ms k), pN (highD row ms k)]
@[simp] def S_j_demands : SV := fun ds Q _ => ∃ (row : List Int) (ms : List Nat), ds = [.py (tI row), .py (tN ms)] ∧ row.length ≤ 40 ∧ ms.Perm (List.range row.length) ∧ Q (.py (.list ((List.range row.length).map (demP row ms))))
@[simp] def S_j_clashes : SV := fun ds Q _ => ∃ (row : List Int) (ms : List Nat), ds = [.py (tI row), .py (tN ms)] ∧ row.length ≤ 40 ∧ ms.Perm (List.range row.length) ∧ Q (.py (.list ((clashL row ms).map pairP)))
/-! ### sizes -/
theorem tN_sw {ms : List Nat} {n : Nat} (h : ms.Perm (List.range n)) (hn : n ≤ 40) : Sw 1640 3 (tN ms) := by
  have hl := perm_len h
  exact (Sw.map (n := 40) (w := 40) (d := 2) (f := pN) (fun k hk => Sw.pN (by have := (perm_mem h).mp hk; omega)) (by omega)).1
theorem clashL_lt {row : List Int} {ms : List Nat} {p : Nat × Nat} (h : p ∈ clashL row ms) : p.1 < p.2 ∧ p.2 < row.length ∧ highD row ms p.2 < lowD row ms p.1 := by
  unfold clashL clashN at h
  obtain ⟨a, ha, hp⟩ := List.mem_flatMap.mp h
  unfold clashRow at hp
  obtain ⟨j, hj, rfl⟩ := List.mem_map.mp hp
  obtain ⟨h1, h2⟩ := List.mem_filter.mp hj
  have h1 := List.mem_range.mp h1
  have ha := List.mem_range.mp ha
  exact ⟨by simp only; omega, by simp only; omega, by simpa using h2⟩
end LawP
set_option Elab.async false
set_option linter.all false
namespace LawP
open PySem VL
/-! ### lists: places, what is left of them -/
theorem split_at {l : List Nat} {x : Nat} (h : x ∈ l) : ∃ l1 l2, l = l1 ++ x :: l2 ∧ x ∉ l1 := by
  induction l with
  | nil => simp at h
  | cons y l ih =>
    by_cases e : x = y
    · subst e; exact ⟨[], l, rfl, by simp⟩
    · obtain ⟨l1, l2, rfl, hn⟩ := ih ((List.mem_cons.mp h).resolve_left e)
      exact ⟨y :: l1, l2, rfl, by simp [e, hn]⟩
theorem idx_split {l1 l2 : List Nat} {x : Nat} (h : x ∉ l1) : (l1 ++ x :: l2).idxOf x = l1.length := by
  induction l1 with
  | nil => simp
  | cons y l ih =>
    have : y ≠ x := fun e => h (by simp [e])
    have h2 : x ∉ l := fun m => h (List.mem_cons_of_mem _ m)
    rw [List.cons_append, List.idxOf_cons, beq_eq_false_iff_ne.mpr this]
    simp [ih h2]
theorem idx_left {l1 l2 : List Nat} {x : Nat} (h : x ∈ l1) : (l1 ++ l2).idxOf x = l1.idxOf x := by
  obtain ⟨p, q, rfl, hn⟩ := split_at h
  rw [List.append_assoc, List.cons_append, idx_split hn, idx_split hn]
theorem idx_lt_of {l1 l2 : List Nat} {x : Nat} (h : x ∈ l1) : (l1 ++ l2).idxOf x < l1.length := by
  rw [idx_left h]; exact List.idxOf_lt_length_of_mem h
theorem idx_right {l1 l2 : List Nat} {x : Nat} (h : x ∉ l1) : (l1 ++ l2).idxOf x = l1.length + l2.idxOf x := by
  induction l1 with
  | nil => simp
  | cons y l ih =>
    have : y ≠ x := fun e => h (by simp [e])
    have h2 : x ∉ l := fun m => h (List.mem_cons_of_mem _ m)
    rw [List.cons_append, List.idxOf_cons, beq_eq_false_iff_ne.mpr this]
    simp [ih h2]; omega
theorem split_uniq {a b c d : List Nat} {x : Nat} (e : a ++ x :: b = c ++ x :: d) (ha : x ∉ a) (hc : x ∉ c) : a = c ∧ b = d := by
  have h1 := idx_split (l2 := b) ha
  have h2 := idx_split (l2 := d) hc
  rw [e, h2] at h1
  have := List.append_inj e h1.symm
  exact ⟨this.1, by simpa using this.2⟩
theorem insAt_mid (a b : List Nat) (x : Nat) : insAt (a ++ b) a.length x = a ++ x :: b := by
  unfold insAt; simp
theorem insAt_end (a : List Nat) (x : Nat) : insAt a a.length x = a ++ [x] := by unfold insAt; simp
theorem insAt_perm (l : List Nat) (p x : Nat) : (insAt l p x).Perm (x :: l) := by
  unfold insAt
  refine List.perm_middle.trans ?_
  rw [List.take_append_drop]
theorem insAt_filter (l : List Nat) (p x : Nat) (f : Nat → Bool) (h : f x = false) : (insAt l p x).filter f = l.filter f := by
  unfold insAt
  rw [List.filter_append, List.filter_cons, h]
  simp only [Bool.false_eq_true, if_false]
  rw [← List.filter_append, List.take_append_drop]
/-! ### the line of all persons so far -/
def tpl (row : List Int) (c : Nat) (T : List Nat) (a : Nat) : Nat := match mateOf row a with
  | some m => if c ≤ T.idxOf m then T.idxOf m + 1 else T.length
  | none => T.length
def tq (row : List Int) (c : Nat → Nat) : Nat → List Nat
  | 0 => []
  | a + 1 => insAt (tq row c a) (tpl row (c a) (tq row c a) a) a
theorem tq_succ (row : List Int) (c : Nat → Nat) (a : Nat) : tq row c (a + 1) = insAt (tq row c a) (tpl row (c a) (tq row c a) a) a := rfl
theorem tq_perm (row : List Int) (c : Nat → Nat) (a : Nat) : (tq row c a).Perm (List.range a) := by
  induction a with
  | zero => exact .refl _
  | succ a ih =>
    rw [tq_succ, List.range_succ]
    exact (insAt_perm _ _ _).trans ((ih.cons a).trans (List.perm_append_comm (l₁ := [a])))
theorem tq_len (row : List Int) (c : Nat → Nat) (a : Nat) : (tq row c a).length = a := perm_len (tq_perm row c a)
theorem tq_mem {row : List Int} {c : Nat → Nat} {a k : Nat} : k ∈ tq row c a ↔ k < a := perm_mem (tq_perm row c a)
theorem tq_filter {row : List Int} {c : Nat → Nat} {a : Nat} : ∀ d, (tq row c (a + d)).filter (fun k => decide (k < a)) = tq row c a
  | 0 => by
    rw [Nat.add_zero, List.filter_eq_self]
    intro k hk
    exact decide_eq_true (tq_mem.mp hk)
  | d + 1 => by
    rw [← Nat.add_assoc, tq_succ, insAt_filter _ _ _ _ (by simp), tq_filter d]
theorem tq_filter' {row : List Int} {c : Nat → Nat} {a n : Nat} (h : a ≤ n) : (tq row c n).filter (fun k => decide (k < a)) = tq row c a := by
  have := tq_filter (row := row) (c := c) (a := a) (n - a)
  rwa [Nat.add_sub_cancel' h] at this
/-- what is done by a word -/
theorem served_tq {row : List Int} {n : Nat} {c : Nat → Nat} : ∀ {w : List Nat} {a s : Nat} {sv ws : List Nat}, goodW n a s w → sv.length = s → sv ++ ws = tq row c a → a ≤ n → (∀ i x, (cntsL s w)[i]? = some x → c (a + i) = x) →
    sv ++ servedL (stepsL row a ws w) = tq row c n
  | [], a, s, sv, ws, ⟨h1, h2⟩, e1, e2, h3, hc => by
    have hl := congrArg List.length e2
    rw [List.length_append, tq_len] at hl
    have : ws = [] := List.length_eq_zero_iff.mp (by omega)
    subst this
    subst h1
    simpa [stepsL, servedL] using e2
  | d :: w, a, s, sv, ws, h, e1, e2, h3, hc => by
    have hl := congrArg List.length e2
    rw [List.length_append, tq_len] at hl
    rcases h with ⟨rfl, ha, h⟩ | ⟨rfl, ha, h⟩
    · rw [stepsL_a, servedL_a]
      rw [cntsL_a] at hc
      have hca : c a = s := hc 0 s rfl
      refine served_tq h e1 ?_ ha fun i x hx => ?_
      · rw [tq_succ, ← e2, hca]
        have hnd : (sv ++ ws).Nodup := by rw [e2]; exact perm_nodup (tq_perm row c a)
        have key : ∀ i, insAt (sv ++ ws) (sv.length + i) a = sv ++ insAt ws i a := fun i => by
          unfold insAt
          rw [List.take_append, List.drop_append, List.take_of_length_le (by omega), List.drop_of_length_le (by omega)]
          simp
        unfold joinQ joinPl tpl
        cases hm : mateOf row a with
        | none => simp only; rw [← key, List.length_append]
        | some m =>
          simp only
          have hma := (mateOf_lt hm).1
          have hmT : m ∈ sv ++ ws := by rw [e2]; exact tq_mem.mpr hma
          by_cases c1 : m ∈ ws
          · have c2 : m ∉ sv := fun c2 => (List.nodup_append.mp hnd).2.2 m c2 m c1 rfl
            rw [idx_right c2, if_pos c1, if_pos (by omega), ← key, Nat.add_assoc]
          · have c2 : m ∈ sv := (List.mem_append.mp hmT).resolve_right c1
            have := idx_lt_of (l2 := ws) c2
            rw [if_neg c1, if_neg (by omega), ← key, List.length_append]
      · rw [show a + 1 + i = a + (i + 1) by omega]
        exact hc (i + 1) x (by simpa using hx)
    · cases ws with
      | nil => simp at hl; omega
      | cons x ws =>
        rw [stepsL_s, servedL_s]
        rw [cntsL_s] at hc
        have := served_tq (row := row) (c := c) (sv := sv ++ [x]) (ws := ws) h (by simp [e1]) (by rw [List.append_assoc]; exact e2) h3 hc
        rw [List.append_assoc] at this
        exact this
def fnOf (cs : List Nat) (k : Nat) : Nat := cs.getD k 0
theorem ordL_tq {row : List Int} {w : List Nat} (h : HistW row.length w) : ordL row w = tq row (fnOf (cntsL 0 w)) row.length := by
  have := served_tq (row := row) (c := fnOf (cntsL 0 w)) (sv := []) (ws := []) h rfl rfl (Nat.zero_le _) (fun i x hx => by unfold fnOf; rw [Nat.zero_add, List.getD_eq_getElem?_getD, hx]; rfl)
  simpa [ordL] using this
end LawP
set_option Elab.async false
set_option linter.all false
namespace LawP
open PySem VL
/-! ### counts of words -/
theorem cntsL_len {n : Nat} : ∀ {w : List Nat} {a s : Nat}, goodW n a s w → a + (cntsL s w).length = n
  | [], a, s, h => by simp [cntsL]; exact h.1
  | c :: w, a, s, h => by
    rcases h with ⟨rfl, _, h⟩ | ⟨rfl, _, h⟩
    · have := cntsL_len h; rw [cntsL_a, List.length_cons]; omega
    · have := cntsL_len h; rw [cntsL_s]; exact this
theorem cntsL_ge : ∀ {w : List Nat} {s x : Nat}, x ∈ cntsL s w → s ≤ x
  | [], _, _, h => by simp [cntsL] at h
  | c :: w, s, x, h => by
    unfold cntsL at h
    split at h
    · rcases List.mem_cons.mp h with rfl | h
      · omega
      · exact cntsL_ge h
    · have := cntsL_ge h; omega
theorem cntsL_up : ∀ {w : List Nat} {s : Nat}, (cntsL s w).Pairwise (· ≤ ·)
  | [], _ => .nil
  | c :: w, s => by
    unfold cntsL
    split
    · exact .cons (fun x hx => cntsL_ge hx) cntsL_up
    · exact cntsL_up
theorem cntsL_le {n : Nat} : ∀ {w : List Nat} {a s i x : Nat}, goodW n a s w → s ≤ a → (cntsL s w)[i]? = some x → x ≤ a + i
  | [], _, _, _, _, _, _, h => by simp [cntsL] at h
  | c :: w, a, s, i, x, h, hs, hx => by
    rcases h with ⟨rfl, _, h⟩ | ⟨rfl, _, h⟩
    · rw [cntsL_a] at hx
      cases i with
      | zero => simp at hx; omega
      | succ i =>
        have := cntsL_le h (by omega) (by simpa using hx)
        omega
    · rw [cntsL_s] at hx
      exact cntsL_le h (by omega) hx
/-- counts of some history of n persons -/
structure CntOk (n : Nat) (cs : List Nat) : Prop where
  len : cs.length = n
  up : ∀ i j, i ≤ j → j < n → fnOf cs i ≤ fnOf cs j
  le : ∀ i, i < n → fnOf cs i ≤ i
theorem fnOf_get {cs : List Nat} {i : Nat} (h : i < cs.length) : fnOf cs i = cs[i] := by
  unfold fnOf
  rw [List.getD_eq_getElem?_getD, List.getElem?_eq_getElem h]; rfl
theorem HistW.cnt {n : Nat} {w : List Nat} (h : HistW n w) : CntOk n (cntsL 0 w) := by
  have hl : (cntsL 0 w).length = n := by have := cntsL_len h; omega
  refine ⟨hl, fun i j hij hj => ?_, fun i hi => ?_⟩
  · rw [fnOf_get (by omega), fnOf_get (by omega)]
    by_cases e : i = j
    · subst e; exact Nat.le_refl _
    · exact List.pairwise_iff_getElem.mp cntsL_up i j (by omega) (by omega) (by omega)
  · rw [fnOf_get (by omega)]
    have := cntsL_le h (Nat.le_refl _) (List.getElem?_eq_getElem (show i < (cntsL 0 w).length by omega))
    omega
/-- the word of some counts -/
def wordC (n : Nat) : Nat → List Nat → List Nat
  | s, [] => List.replicate (n - s) 115
  | s, c :: cs => List.replicate (c - s) 115 ++ 97 :: wordC n c cs
theorem goodW_reps {n : Nat} : ∀ {k a s : Nat} {w : List Nat}, s + k ≤ a → goodW n a (s + k) w → goodW n a s (List.replicate k 115 ++ w)
  | 0, _, _, _, _, h => h
  | k + 1, a, s, w, hk, h => by
    rw [List.replicate_succ, List.cons_append]
    exact .inr ⟨rfl, by omega, goodW_reps (by omega) (by rw [show s + 1 + k = s + (k + 1) by omega]; exact h)⟩
theorem cntsL_reps : ∀ {k s : Nat} {w : List Nat}, cntsL s (List.replicate k 115 ++ w) = cntsL (s + k) w
  | 0, _, _ => rfl
  | k + 1, s, w => by
    rw [List.replicate_succ, List.cons_append, cntsL_s, cntsL_reps]
    congr 1; omega
theorem wordC_good {n : Nat} : ∀ {cs : List Nat} {a s : Nat}, s ≤ a → a + cs.length = n → (∀ x ∈ cs, s ≤ x) → cs.Pairwise (· ≤ ·) → (∀ i x, cs[i]? = some x → x ≤ a + i) → goodW n a s (wordC n s cs)
  | [], a, s, h1, h2, _, _, _ => by
    have h2 : a = n := by simpa using h2
    subst h2
    have := goodW_reps (n := a) (k := a - s) (a := a) (s := s) (w := []) (by omega) ⟨rfl, by omega⟩
    simpa [wordC] using this
  | c :: cs, a, s, h1, h2, h3, h4, h5 => by
    have hc := h3 c List.mem_cons_self
    have hca := h5 0 c rfl
    rw [List.length_cons] at h2
    rw [List.pairwise_cons] at h4
    unfold wordC
    refine goodW_reps (by omega) ?_
    rw [show s + (c - s) = c by omega]
    exact .inl ⟨rfl, by omega, wordC_good (by omega) (by omega) h4.1 h4.2 fun i x hx => by have := h5 (i + 1) x (by simpa using hx); omega⟩
theorem cntsL_wordC {n : Nat} : ∀ {cs : List Nat} {s : Nat}, (∀ x ∈ cs, s ≤ x) → cs.Pairwise (· ≤ ·) → cntsL s (wordC n s cs) = cs
  | [], s, _, _ => by
    have := cntsL_reps (k := n - s) (s := s) (w := [])
    simpa [wordC, cntsL] using this
  | c :: cs, s, h3, h4 => by
    have hc := h3 c List.mem_cons_self
    rw [List.pairwise_cons] at h4
    unfold wordC
    rw [cntsL_reps, show s + (c - s) = c by omega, cntsL_a, cntsL_wordC h4.1 h4.2]
theorem CntOk.pair {n : Nat} {cs : List Nat} (h : CntOk n cs) : cs.Pairwise (· ≤ ·) := by
  rw [List.pairwise_iff_getElem]
  intro i j hi hj hij
  have := h.up i j (Nat.le_of_lt hij) (by rw [← h.len]; exact hj)
  rwa [fnOf_get hi, fnOf_get hj] at this
theorem CntOk.hist {n : Nat} {cs : List Nat} (h : CntOk n cs) : HistW n (wordC n 0 cs) := by
  refine wordC_good (Nat.le_refl _) (by rw [h.len]; omega) (fun _ _ => Nat.zero_le _) h.pair fun i x hx => ?_
  have hi := (List.getElem?_eq_some_iff.mp hx).1
  have := h.le i (by rw [← h.len]; exact hi)
  rw [fnOf_get hi, (List.getElem?_eq_some_iff.mp hx).2] at this
  omega
theorem CntOk.cnts {n : Nat} {cs : List Nat} (h : CntOk n cs) : cntsL 0 (wordC n 0 cs) = cs := cntsL_wordC (fun _ _ => Nat.zero_le _) h.pair
/-- a history is the word of its counts -/
theorem wordC_s {n s : Nat} {cs : List Nat} (h1 : ∀ x ∈ cs, s + 1 ≤ x) (h2 : s + 1 ≤ n) : wordC n s cs = 115 :: wordC n (s + 1) cs := by
  cases cs with
  | nil =>
    unfold wordC
    rw [show n - s = (n - (s + 1)) + 1 by omega, List.replicate_succ]
  | cons c cs =>
    have := h1 c List.mem_cons_self
    unfold wordC
    rw [show c - s = (c - (s + 1)) + 1 by omega, List.replicate_succ]; rfl
theorem wordC_cnts {n : Nat} : ∀ {w : List Nat} {a s : Nat}, goodW n a s w → a ≤ n → wordC n s (cntsL s w) = w
  | [], a, s, ⟨h1, h2⟩, _ => by subst h2; simp [cntsL, wordC]
  | c :: w, a, s, h, ha => by
    rcases h with ⟨rfl, h1, h⟩ | ⟨rfl, h1, h⟩
    · rw [cntsL_a]
      unfold wordC
      rw [Nat.sub_self, wordC_cnts h (by omega)]; rfl
    · rw [cntsL_s, wordC_s (fun x hx => cntsL_ge hx) (by omega), wordC_cnts h ha]
theorem HistW.word {n : Nat} {w : List Nat} (h : HistW n w) : wordC n 0 (cntsL 0 w) = w := wordC_cnts h (Nat.zero_le _)
end LawP
set_option Elab.async false
set_option linter.all false
namespace LawP
open PySem VL
/-! ### a history has an order exactly if its counts meet the demands -/
structure Fits (row : List Int) (ms : List Nat) (c : Nat → Nat) : Prop where
  kd : ∀ k, k < row.length → nearB row ms k = true ∨ leadB ms k = true
  lo : ∀ k, k < row.length → lowD row ms k ≤ c k
  hi : ∀ k, k < row.length → c k ≤ highD row ms k
theorem near_iff {row : List Int} {ms : List Nat} {k : Nat} : nearB row ms k = true ↔ ∃ m, mateOf row k = some m ∧ ms.idxOf k = ms.idxOf m + 1 := by
  unfold nearB
  cases mateOf row k with
  | none => simp
  | some m => simp
theorem lead_iff {ms : List Nat} {k : Nat} : leadB ms k = true ↔ ∀ j, j < k → ms.idxOf j < ms.idxOf k := by
  unfold leadB
  rw [List.all_eq_true]
  constructor
  · intro h j hj
    simpa using h j (List.mem_range.mpr hj)
  · intro h j hj
    simpa using h j (List.mem_range.mp hj)
theorem filt_idx {l : List Nat} {f : Nat → Bool} {x : Nat} (hx : x ∈ l) (hf : f x = true) : (l.filter f).idxOf x ≤ l.idxOf x := by
  obtain ⟨l1, l2, rfl, hn⟩ := split_at hx
  rw [List.filter_append, List.filter_cons, hf, if_pos rfl, idx_split hn, idx_split (fun m => hn (List.mem_filter.mp m).1)]
  exact List.length_filter_le _ _
/-- an order is what its counts make of it -/
theorem fits_tq {row : List Int} {ms : List Nat} {c : Nat → Nat} (hp : ms.Perm (List.range row.length)) (hf : Fits row ms c) (hup : ∀ i j, i ≤ j → j < row.length → c i ≤ c j) : tq row c row.length = ms := by
  have hnd := perm_nodup hp
  have go : ∀ a, a ≤ row.length → tq row c a = ms.filter fun k => decide (k < a) := by
    intro a
    induction a with
    | zero => intro _; simp [tq]
    | succ a ih =>
      intro ha
      have ih := ih (by omega)
      have ham : a ∈ ms := (perm_mem hp).mpr ha
      obtain ⟨l1, l2, e, hn1⟩ := split_at ham
      have ia : ms.idxOf a = l1.length := by rw [e]; exact idx_split hn1
      have hn2 : a ∉ l2 := by rw [e] at hnd; exact (List.nodup_cons.mp (List.nodup_append.mp hnd).2.1).1
      have f1 : ∀ l : List Nat, a ∉ l → l.filter (fun k => decide (k < a + 1)) = l.filter fun k => decide (k < a) := fun l h => by
        refine List.filter_congr fun k hk => ?_
        have : k ≠ a := fun e => h (e ▸ hk)
        by_cases c1 : k < a
        · simp [c1, Nat.lt_succ_of_lt c1]
        · simp [c1]; omega
      have eF : ms.filter (fun k => decide (k < a)) = l1.filter (fun k => decide (k < a)) ++ l2.filter (fun k => decide (k < a)) := by
        rw [e, List.filter_append, List.filter_cons]; simp
      have eF1 : ms.filter (fun k => decide (k < a + 1)) = l1.filter (fun k => decide (k < a)) ++ a :: l2.filter (fun k => decide (k < a)) := by
        rw [e, List.filter_append, List.filter_cons, f1 _ hn1, f1 _ hn2]; simp
      rw [tq_succ, ih, eF1]
      have lF : (ms.filter fun k => decide (k < a)).length = a := by rw [← ih]; exact tq_len _ _ _
      have fin : ∀ j, j = (l1.filter fun k => decide (k < a)).length → insAt (ms.filter fun k => decide (k < a)) j a = l1.filter (fun k => decide (k < a)) ++ a :: l2.filter (fun k => decide (k < a)) := fun j hj => by
        rw [hj, eF, insAt_mid]
      refine fin _ ?_
      have lead : leadB ms a = true → (l1.filter fun k => decide (k < a)).length = a := fun hl => by
        have e2 : l2.filter (fun k => decide (k < a)) = [] := by
          rw [List.filter_eq_nil_iff]
          intro k hk c1
          have c1 : k < a := by simpa using c1
          have := lead_iff.mp hl k c1
          have hk1 : k ∉ l1 := fun h => by
            rw [e] at hnd
            exact (List.nodup_append.mp hnd).2.2 k h k (List.mem_cons_of_mem _ hk) rfl
          rw [ia, e, idx_right hk1] at this
          omega
        rw [eF, e2, List.append_nil] at lF
        exact lF
      unfold tpl
      cases hm : mateOf row a with
      | none =>
        simp only
        rcases hf.kd a ha with h | h
        · obtain ⟨m, h1, _⟩ := near_iff.mp h
          rw [hm] at h1; cases h1
        · rw [lF, lead h]
      | some m =>
        simp only
        have hma := (mateOf_lt hm).1
        have hmm : m ∈ ms := (perm_mem hp).mpr (by omega)
        have fm := filt_idx (f := fun k => decide (k < a)) hmm (by simpa using hma)
        by_cases hN : nearB row ms a = true
        · obtain ⟨m', h1, h2⟩ := near_iff.mp hN
          rw [hm] at h1
          cases h1
          -- the mate ends l1
          have hne : l1 ≠ [] := fun e3 => by rw [e3] at ia; simp at ia; omega
          obtain ⟨l0, z, e0⟩ : ∃ l0 z, l1 = l0 ++ [z] := ⟨l1.dropLast, l1.getLast hne, (List.dropLast_concat_getLast hne).symm⟩
          have hz : z = m := by
            have i1 : ms.idxOf m = l0.length := by rw [e0] at ia; simp at ia; omega
            have g := idx_get hmm
            rw [i1, e, e0] at g
            simpa using g
          subst hz
          have hz0 : z ∉ l0 := fun h => by
            rw [e, e0] at hnd
            exact (List.nodup_append.mp (List.nodup_append.mp hnd).1).2.2 z h z (by simp) rfl
          have im : ms.idxOf z = l0.length := by rw [e0] at ia; simp at ia; omega
          have e1 : l1.filter (fun k => decide (k < a)) = l0.filter (fun k => decide (k < a)) ++ [z] := by
            rw [e0, List.filter_append]; simp [hma]
          have iF : (ms.filter fun k => decide (k < a)).idxOf z = (l0.filter fun k => decide (k < a)).length := by
            rw [eF, e1, List.append_assoc]
            exact idx_split fun h => hz0 (List.mem_filter.mp h).1
          rw [iF, e1, List.length_append, List.length_singleton]
          by_cases hL : leadB ms a = true
          · have := lead hL
            rw [e1, List.length_append, List.length_singleton] at this
            split
            · rfl
            · rw [lF]; omega
          · rw [if_pos]
            have hh := hf.hi a ha
            unfold highD at hh
            rw [hm] at hh
            have hL' : leadB ms a = false := by simpa using hL
            simp [hN, hL'] at hh
            rw [im] at hh
            refine Nat.le_of_not_lt fun hlt => ?_
            -- the first later person ahead of the mate
            have hex : ∃ b ∈ l0, ¬ b < a := by
              refine Classical.byContradiction fun hno => ?_
              have : l0.filter (fun k => decide (k < a)) = l0 := by
                rw [List.filter_eq_self]
                intro k hk
                refine decide_eq_true (Classical.byContradiction fun c1 => hno ⟨k, hk, c1⟩)
              rw [this] at hlt
              omega
            obtain ⟨b, p1, p2, e4, hb, hp1⟩ : ∃ b p1 p2, l0 = p1 ++ b :: p2 ∧ ¬ b < a ∧ ∀ k ∈ p1, k < a := by
              clear iF e1 fin lead eF eF1 im hz0 hlt hh
              revert hex
              generalize l0 = L
              intro hex
              induction L with
              | nil => obtain ⟨b, hb, _⟩ := hex; simp at hb
              | cons y L ihL =>
                by_cases c1 : y < a
                · obtain ⟨b, hb, hb2⟩ := hex
                  rcases List.mem_cons.mp hb with rfl | hb
                  · exact absurd c1 hb2
                  · obtain ⟨b, p1, p2, e, h1, h2⟩ := ihL ⟨b, hb, hb2⟩
                    refine ⟨b, y :: p1, p2, by rw [e]; rfl, h1, fun k hk => ?_⟩
                    rcases List.mem_cons.mp hk with rfl | hk
                    · exact c1
                    · exact h2 k hk
                · exact ⟨y, [], L, rfl, c1, by simp⟩
            have hbm : b ∈ ms := by rw [e, e0, e4]; simp
            have hbn : b < row.length := (perm_mem hp).mp hbm
            have hb1 : b ∉ p1 := fun h => hb (hp1 b h)
            have ib : ms.idxOf b = p1.length := by
              rw [e, e0, e4]
              simp only [List.append_assoc, List.cons_append]
              exact idx_split hb1
            have hba : b ≠ a := fun h => by
              subst h
              exact hn1 (by rw [e0, e4]; simp)
            have hbL : leadB ms b = false := by
              cases hx : leadB ms b with
              | false => rfl
              | true =>
                have := lead_iff.mp hx z (by omega)
                rw [im, ib, e4, List.length_append] at this
                omega
            have hbN : nearB row ms b = true := (hf.kd b hbn).resolve_right (by rw [hbL]; simp)
            obtain ⟨m2, h5, h6⟩ := near_iff.mp hbN
            have hhb := hf.hi b hbn
            unfold highD at hhb
            rw [h5] at hhb
            simp [hbN, hbL] at hhb
            have hcab := hup a b (by omega) hbn
            have : (l0.filter fun k => decide (k < a)).length ≥ p1.length := by
              have e7 : p1.filter (fun k => decide (k < a)) = p1 := by
                rw [List.filter_eq_self]; intro k hk; exact decide_eq_true (hp1 k hk)
              rw [e4, List.filter_append, e7, List.length_append]; omega
            omega
        · have hN' : nearB row ms a = false := by simpa using hN
          have hL := (hf.kd a ha).resolve_left hN
          have hlo := hf.lo a ha
          unfold lowD at hlo
          rw [hm] at hlo
          simp [hN', hL] at hlo
          rw [if_neg (by omega), lF, lead hL]
  rw [go _ (Nat.le_refl _), List.filter_eq_self]
  intro k hk
  exact decide_eq_true ((perm_mem hp).mp hk)
/-- .. and the counts of a history meet the demands of its order -/
theorem idx_insAt {T : List Nat} {p b m : Nat} (h1 : T.idxOf m < p) (hm : m ∈ T) : (insAt T p b).idxOf m = T.idxOf m := by
  obtain ⟨l1, l2, rfl, hn⟩ := split_at hm
  rw [idx_split hn] at h1 ⊢
  unfold insAt
  obtain ⟨q, rfl⟩ : ∃ q, p = l1.length + 1 + q := ⟨p - (l1.length + 1), by omega⟩
  rw [List.take_append, List.take_of_length_le (by omega), show l1.length + 1 + q - l1.length = q + 1 by omega, List.take_succ_cons, List.append_assoc, List.cons_append]
  exact idx_split hn
theorem tpl_some {row : List Int} {c a m : Nat} {T : List Nat} (h : mateOf row a = some m) : tpl row c T a = if c ≤ T.idxOf m then T.idxOf m + 1 else T.length := by unfold tpl; rw [h]
theorem tpl_none {row : List Int} {c a : Nat} {T : List Nat} (h : mateOf row a = none) : tpl row c T a = T.length := by unfold tpl; rw [h]
theorem tpl_gt {row : List Int} {c a : Nat} {T : List Nat} (h : c ≤ T.length) : c ≤ tpl row c T a := by
  cases hm : mateOf row a with
  | none => rw [tpl_none hm]; exact h
  | some m => rw [tpl_some hm]; split <;> omega
/-- whoever stands ahead of the count stays there -/
theorem tq_fix {row : List Int} {c : Nat → Nat} {a m : Nat} (hma : m < a) (hlt : (tq row c a).idxOf m < c a) : ∀ d, a + d ≤ row.length → (∀ i j, i ≤ j → j < row.length → c i ≤ c j) → (∀ i, i < row.length → c i ≤ i) → (tq row c (a + d)).idxOf m = (tq row c a).idxOf m
  | 0, _, _, _ => rfl
  | d + 1, hd, hup, hle => by
    have ih := tq_fix hma hlt d (by omega) hup hle
    rw [← Nat.add_assoc, tq_succ, idx_insAt _ (tq_mem.mpr (by omega)), ih]
    rw [ih]
    have h1 := hup a (a + d) (by omega) (by omega)
    have h2 := hle (a + d) (by omega)
    have hmT : m ∈ tq row c (a + d) := tq_mem.mpr (by omega)
    have := List.idxOf_lt_length_of_mem hmT
    cases hm : mateOf row (a + d) with
    | none => rw [tpl_none hm]; omega
    | some m2 => rw [tpl_some hm]; split <;> omega
theorem mate_uniq {row : List Int} {a b m : Nat} (ha : mateOf row a = some m) (hb : mateOf row b = some m) : a = b := by
  have key : ∀ a b, mateOf row a = some m → mateOf row b = some m → a < b → False := fun a b ha hb h => by
    obtain ⟨g, hg⟩ : ∃ g, row[a]? = some g := ⟨row[a]'(mateOf_lt ha).2, List.getElem?_eq_getElem _⟩
    obtain ⟨g', hg'⟩ : ∃ g, row[b]? = some g := ⟨row[b]'(mateOf_lt hb).2, List.getElem?_eq_getElem _⟩
    rw [mateOf_at hg] at ha
    rw [mateOf_at hg'] at hb
    obtain ⟨a1, a2, a3⟩ := lastIn_some ha
    obtain ⟨b1, b2, b3⟩ := lastIn_some hb
    have : g = g' := by rw [a2] at b2; exact Option.some.inj b2
    subst this
    exact b3 a a1 h hg
  rcases Nat.lt_trichotomy a b with h | h | h
  · exact (key a b ha hb h).elim
  · exact h
  · exact (key b a hb ha h).elim
theorem insAt_pair {X Y : List Nat} {m a p b : Nat} (h : p ≠ X.length + 1) : ∃ X' Y', insAt (X ++ m :: a :: Y) p b = X' ++ m :: a :: Y' := by
  unfold insAt
  by_cases c : p ≤ X.length
  · refine ⟨X.take p ++ b :: X.drop p, Y, ?_⟩
    rw [List.take_append_of_le_length c, List.drop_append_of_le_length c, List.append_assoc]; rfl
  · obtain ⟨q, rfl⟩ : ∃ q, p = X.length + (q + 2) := ⟨p - (X.length + 2), by omega⟩
    refine ⟨X, Y.take q ++ b :: Y.drop q, ?_⟩
    rw [List.take_length_add_append, List.drop_length_add_append]
    simp
/-- who joins stays right behind the mate -/
theorem tq_pair {row : List Int} {c : Nat → Nat} {a m : Nat} (hm : mateOf row a = some m) (hj : c a ≤ (tq row c a).idxOf m) : ∀ d, ∃ X Y, tq row c (a + 1 + d) = X ++ m :: a :: Y
  | 0 => by
    have hmT : m ∈ tq row c a := tq_mem.mpr (mateOf_lt hm).1
    obtain ⟨l1, l2, e, hn⟩ := split_at hmT
    refine ⟨l1, l2, ?_⟩
    rw [Nat.add_zero, tq_succ, tpl_some hm, if_pos hj, e, idx_split hn]
    have := insAt_mid (l1 ++ [m]) l2 a
    rw [List.length_append, List.length_singleton, List.append_assoc, List.append_assoc] at this
    exact this
  | d + 1 => by
    obtain ⟨X, Y, e⟩ := tq_pair hm hj d
    rw [← Nat.add_assoc, tq_succ]
    have hp : tpl row (c (a + 1 + d)) (tq row c (a + 1 + d)) (a + 1 + d) ≠ X.length + 1 := by
      have hnd := perm_nodup (tq_perm row c (a + 1 + d))
      cases h2 : mateOf row (a + 1 + d) with
      | none => rw [tpl_none h2, e]; simp
      | some m2 =>
        rw [tpl_some h2]
        split
        · intro h
          have hm2 : m2 ∈ tq row c (a + 1 + d) := tq_mem.mpr (mateOf_lt h2).1
          have g := idx_get hm2
          have : (tq row c (a + 1 + d)).idxOf m2 = X.length := by omega
          rw [this, e] at g
          simp at g
          subst g
          have := mate_uniq hm h2
          omega
        · rw [e]; simp
    rw [e] at hp ⊢
    exact insAt_pair hp
theorem tq_fits {row : List Int} {c : Nat → Nat} (hup : ∀ i j, i ≤ j → j < row.length → c i ≤ c j) (hle : ∀ i, i < row.length → c i ≤ i) : Fits row (tq row c row.length) c := by
  have hpn := tq_perm row c row.length
  have hnd := perm_nodup hpn
  -- one person
  have key : ∀ a, a < row.length → (nearB row (tq row c row.length) a = true ∨ leadB (tq row c row.length) a = true) ∧ lowD row (tq row c row.length) a ≤ c a ∧ c a ≤ highD row (tq row c row.length) a := by
    intro a ha
    have ham : a ∈ tq row c row.length := tq_mem.mpr ha
    have fa := tq_filter' (row := row) (c := c) (a := a + 1) (n := row.length) ha
    have own : c a ≤ (tq row c row.length).idxOf a := by
      refine Nat.le_trans ?_ (filt_idx (f := fun k => decide (k < a + 1)) ham (by simp))
      rw [fa, tq_succ]
      have hc := hle a ha
      have hnT : a ∉ tq row c a := fun h => by have := tq_mem.mp h; omega
      have h1 := tpl_gt (row := row) (a := a) (T := tq row c a) (c := c a) (by rw [tq_len]; exact hc)
      refine Nat.le_trans h1 ?_
      unfold insAt
      rw [idx_right fun h => hnT (List.mem_of_mem_take h)]
      simp
      have : tpl row (c a) (tq row c a) a ≤ (tq row c a).length := by
        cases hm : mateOf row a with
        | none => rw [tpl_none hm]; exact Nat.le_refl _
        | some m =>
          rw [tpl_some hm]
          have := List.idxOf_lt_length_of_mem (tq_mem (row := row) (c := c).mpr (mateOf_lt hm).1)
          split <;> omega
      omega
    have lead : tpl row (c a) (tq row c a) a = (tq row c a).length → leadB (tq row c row.length) a = true := fun h => by
      rw [tq_succ, h, insAt_end] at fa
      obtain ⟨l1, l2, e, hn⟩ := split_at ham
      rw [e, List.filter_append, List.filter_cons] at fa
      simp only [Nat.lt_succ_self, decide_true, if_true] at fa
      have hnT : a ∉ tq row c a := fun h => by have := tq_mem.mp h; omega
      have u := split_uniq (b := l2.filter fun k => decide (k < a + 1)) (d := []) fa (fun m => hn (List.mem_filter.mp m).1) hnT
      refine lead_iff.mpr fun k hk => ?_
      have hkm : k ∈ tq row c row.length := tq_mem.mpr (by omega)
      rw [e] at hkm ⊢
      rw [idx_split hn]
      have : k ∈ l1 := by
        rcases List.mem_append.mp hkm with h1 | h1
        · exact h1
        · rcases List.mem_cons.mp h1 with h1 | h1
          · omega
          · have : k ∈ l2.filter fun k => decide (k < a + 1) := List.mem_filter.mpr ⟨h1, decide_eq_true (by omega)⟩
            rw [u.2] at this; simp at this
      exact idx_lt_of this
    cases hm : mateOf row a with
    | none =>
      refine ⟨.inr (lead (tpl_none hm)), ?_, ?_⟩
      · unfold lowD; rw [hm]; exact Nat.zero_le _
      · unfold highD; rw [hm]; exact own
    | some m =>
      have hma := (mateOf_lt hm).1
      have hmm : m ∈ tq row c row.length := tq_mem.mpr (by omega)
      have le_m : (tq row c a).idxOf m ≤ (tq row c row.length).idxOf m := by
        have := filt_idx (f := fun k => decide (k < a)) hmm (by simpa using hma)
        rwa [tq_filter' (Nat.le_of_lt ha)] at this
      by_cases hj : c a ≤ (tq row c a).idxOf m
      · obtain ⟨X, Y, e⟩ := tq_pair hm hj (row.length - (a + 1))
        rw [show a + 1 + (row.length - (a + 1)) = row.length by omega] at e
        have hN : nearB row (tq row c row.length) a = true := by
          refine near_iff.mpr ⟨m, hm, ?_⟩
          have hmX : m ∉ X := fun h => by rw [e] at hnd; exact (List.nodup_append.mp hnd).2.2 m h m (by simp) rfl
          have haX : a ∉ X ++ [m] := fun h => by
            rw [e, show X ++ m :: a :: Y = (X ++ [m]) ++ a :: Y by simp] at hnd
            exact (List.nodup_append.mp hnd).2.2 a h a (by simp) rfl
          rw [e, idx_split hmX, show X ++ m :: a :: Y = (X ++ [m]) ++ a :: Y by simp, idx_split haX]
          simp
        refine ⟨.inl hN, ?_, ?_⟩
        · unfold lowD; rw [hm]; simp [hN]
        · unfold highD; rw [hm]
          simp only
          split
          · omega
          · exact own
      · have hL := lead (by rw [tpl_some hm, if_neg hj])
        have hfx := tq_fix (row := row) (c := c) hma (Nat.lt_of_not_le hj) (row.length - a) (by omega) hup hle
        rw [show a + (row.length - a) = row.length by omega] at hfx
        refine ⟨.inr hL, ?_, ?_⟩
        · unfold lowD; rw [hm]
          simp only
          split <;> omega
        · unfold highD; rw [hm]
          simp [hL]; exact own
  exact ⟨fun k hk => (key k hk).1, fun k hk => (key k hk).2.1, fun k hk => (key k hk).2.2⟩
end LawP
set_option Elab.async false
set_option linter.all false
namespace LawP
open PySem VL
/-! ### stairs: the least and the greatest counts -/
def maxTo (f : Nat → Nat) : Nat → Nat
  | 0 => f 0
  | k + 1 => max (maxTo f k) (f (k + 1))
def minFrom (f : Nat → Nat) (k : Nat) : Nat → Nat
  | 0 => f k
  | d + 1 => min (minFrom f k d) (f (k + d + 1))
theorem maxTo_ge (f : Nat → Nat) : ∀ {k j : Nat}, j ≤ k → f j ≤ maxTo f k
  | 0, j, h => by have : j = 0 := by omega
                  subst this; exact Nat.le_refl _
  | k + 1, j, h => by
    unfold maxTo
    by_cases e : j = k + 1
    · subst e; omega
    · have := maxTo_ge f (k := k) (j := j) (by omega); omega
theorem maxTo_mem (f : Nat → Nat) : ∀ k, ∃ j, j ≤ k ∧ maxTo f k = f j
  | 0 => ⟨0, Nat.le_refl _, rfl⟩
  | k + 1 => by
    obtain ⟨j, h1, h2⟩ := maxTo_mem f k
    unfold maxTo
    by_cases c : maxTo f k ≤ f (k + 1)
    · exact ⟨k + 1, Nat.le_refl _, by omega⟩
    · exact ⟨j, by omega, by omega⟩
theorem minFrom_le (f : Nat → Nat) (k : Nat) : ∀ {d j : Nat}, j ≤ d → minFrom f k d ≤ f (k + j)
  | 0, j, h => by have : j = 0 := by omega
                  subst this; exact Nat.le_refl _
  | d + 1, j, h => by
    unfold minFrom
    by_cases e : j = d + 1
    · subst e; rw [← Nat.add_assoc]; omega
    · have := minFrom_le f k (d := d) (j := j) (by omega); omega
theorem minFrom_mem (f : Nat → Nat) (k : Nat) : ∀ d, ∃ j, j ≤ d ∧ minFrom f k d = f (k + j)
  | 0 => ⟨0, Nat.le_refl _, rfl⟩
  | d + 1 => by
    obtain ⟨j, h1, h2⟩ := minFrom_mem f k d
    unfold minFrom
    by_cases c : minFrom f k d ≤ f (k + d + 1)
    · exact ⟨j, by omega, by omega⟩
    · exact ⟨d + 1, Nat.le_refl _, by rw [← Nat.add_assoc]; omega⟩
def loS (row : List Int) (ms : List Nat) (k : Nat) : Nat := maxTo (lowD row ms) k
def hiS (row : List Int) (ms : List Nat) (k : Nat) : Nat := minFrom (highD row ms) k (row.length - 1 - k)
theorem loS_ge {row : List Int} {ms : List Nat} {j k : Nat} (h : j ≤ k) : lowD row ms j ≤ loS row ms k := maxTo_ge _ h
theorem loS_mem (row : List Int) (ms : List Nat) (k : Nat) : ∃ j, j ≤ k ∧ loS row ms k = lowD row ms j := maxTo_mem _ k
theorem hiS_le {row : List Int} {ms : List Nat} {j k : Nat} (h : k ≤ j) (hj : j < row.length) : hiS row ms k ≤ highD row ms j := by
  have := minFrom_le (highD row ms) k (d := row.length - 1 - k) (j := j - k) (by omega)
  rwa [show k + (j - k) = j by omega] at this
theorem hiS_mem {row : List Int} {ms : List Nat} {k : Nat} (hk : k < row.length) : ∃ j, k ≤ j ∧ j < row.length ∧ hiS row ms k = highD row ms j := by
  obtain ⟨j, h1, h2⟩ := minFrom_mem (highD row ms) k (row.length - 1 - k)
  exact ⟨k + j, by omega, by omega, h2⟩
theorem loS_up {row : List Int} {ms : List Nat} {i j : Nat} (h : i ≤ j) : loS row ms i ≤ loS row ms j := by
  obtain ⟨k, h1, h2⟩ := loS_mem row ms i
  rw [h2]; exact loS_ge (by omega)
theorem hiS_up {row : List Int} {ms : List Nat} {i j : Nat} (h : i ≤ j) (hj : j < row.length) : hiS row ms i ≤ hiS row ms j := by
  obtain ⟨k, h1, h2, h3⟩ := hiS_mem (ms := ms) hj
  rw [h3]; exact hiS_le (by omega) h2
theorem high_le (row : List Int) (ms : List Nat) (k : Nat) : highD row ms k ≤ ms.idxOf k := by
  unfold highD
  cases hm : mateOf row k with
  | none => exact Nat.le_refl _
  | some m =>
    simp only
    split
    · rename_i h
      simp at h
      obtain ⟨m', h1, h2⟩ := near_iff.mp h.1
      rw [hm] at h1; cases h1; omega
    · exact Nat.le_refl _
theorem low_high (row : List Int) (ms : List Nat) (k : Nat) : lowD row ms k ≤ highD row ms k := by
  unfold lowD highD
  cases hm : mateOf row k with
  | none => simp
  | some m =>
    simp only
    split
    · rename_i h
      simp at h
      rw [h.1]
      simp
      exact lead_iff.mp h.2 m (mateOf_lt hm).1
    · exact Nat.zero_le _
/-- the order is possible: no reason against it -/
def Poss (row : List Int) (ms : List Nat) : Prop := wrongL row ms = [] ∧ clashL row ms = []
theorem wrongL_nil {row : List Int} {ms : List Nat} : wrongL row ms = [] ↔ ∀ k, k < row.length → nearB row ms k = true ∨ leadB ms k = true := by
  unfold wrongL
  rw [List.filter_eq_nil_iff]
  constructor
  · intro h k hk
    have := h k (List.mem_range.mpr hk)
    revert this
    generalize nearB row ms k = a
    generalize leadB ms k = b
    cases a <;> cases b <;> simp
  · intro h k hk
    rcases h k (List.mem_range.mp hk) with e | e <;> simp [e]
theorem mem_clashL {row : List Int} {ms : List Nat} {a b : Nat} : (a, b) ∈ clashL row ms ↔ a < b ∧ b < row.length ∧ highD row ms b < lowD row ms a := by
  constructor
  · exact fun h => clashL_lt h
  · rintro ⟨h1, h2, h3⟩
    unfold clashL clashN
    refine List.mem_flatMap.mpr ⟨a, List.mem_range.mpr (by omega), ?_⟩
    unfold clashRow
    refine List.mem_map.mpr ⟨b - (a + 1), List.mem_filter.mpr ⟨List.mem_range.mpr (by omega), ?_⟩, ?_⟩
    · rw [show a + 1 + (b - (a + 1)) = b by omega]; simpa using h3
    · rw [show a + 1 + (b - (a + 1)) = b by omega]
theorem clashL_nil {row : List Int} {ms : List Nat} : clashL row ms = [] ↔ ∀ a b, a < b → b < row.length → lowD row ms a ≤ highD row ms b := by
  constructor
  · intro h a b h1 h2
    refine Nat.le_of_not_lt fun h3 => ?_
    have := mem_clashL.mpr ⟨h1, h2, h3⟩
    rw [h] at this; simp at this
  · intro h
    refine List.eq_nil_iff_forall_not_mem.mpr fun p hp => ?_
    have := clashL_lt hp
    have := h p.1 p.2 this.1 this.2.1
    omega
theorem Fits.poss {row : List Int} {ms : List Nat} {c : Nat → Nat} (hf : Fits row ms c) (hup : ∀ i j, i ≤ j → j < row.length → c i ≤ c j) : Poss row ms := by
  refine ⟨wrongL_nil.mpr hf.kd, clashL_nil.mpr fun a b h1 h2 => ?_⟩
  have := hf.lo a (by omega)
  have := hf.hi b h2
  have := hup a b (by omega) h2
  omega
theorem Poss.le {row : List Int} {ms : List Nat} (h : Poss row ms) {i j : Nat} (hij : i ≤ j) (hj : j < row.length) : lowD row ms i ≤ highD row ms j := by
  by_cases e : i = j
  · subst e; exact low_high row ms i
  · exact clashL_nil.mp h.2 i j (by omega) hj
theorem Poss.stairs {row : List Int} {ms : List Nat} (h : Poss row ms) {k : Nat} (hk : k < row.length) : loS row ms k ≤ hiS row ms k := by
  obtain ⟨i, h1, h2⟩ := loS_mem row ms k
  obtain ⟨j, h3, h4, h5⟩ := hiS_mem (ms := ms) hk
  rw [h2, h5]
  exact h.le (by omega) h4
theorem nodup_le : ∀ {ks ns : List Nat}, ks.Nodup → (∀ j, j ∈ ks → j ∈ ns) → ks.length ≤ ns.length
  | [], ns, _, _ => Nat.zero_le _
  | k :: ks, ns, hn, hs => by
    rw [List.nodup_cons] at hn
    have hk : k ∈ ns := hs k List.mem_cons_self
    have := nodup_le (ks := ks) (ns := ns.erase k) hn.2 fun j hj => by
      have ne : j ≠ k := fun e => hn.1 (e ▸ hj)
      exact (List.mem_erase_of_ne ne).mpr (hs j (List.mem_cons_of_mem _ hj))
    rw [List.length_erase_of_mem hk] at this
    have := List.length_pos_of_mem hk
    rw [List.length_cons]; omega
theorem hiS_le_self {row : List Int} {ms : List Nat} (hp : ms.Perm (List.range row.length)) {k : Nat} (hk : k < row.length) : hiS row ms k ≤ k := by
  have hl := perm_len hp
  obtain ⟨j, hj, hkj⟩ : ∃ j ∈ ms.take (k + 1), ¬ j < k := by
    refine Classical.byContradiction fun hno => ?_
    have hs : ∀ j ∈ ms.take (k + 1), j ∈ List.range k := fun j hj => List.mem_range.mpr (Classical.byContradiction fun c => hno ⟨j, hj, c⟩)
    have := nodup_le ((perm_nodup hp).sublist (List.take_sublist _ _)) hs
    rw [List.length_take, List.length_range] at this
    omega
  have hjm : j ∈ ms := List.mem_of_mem_take hj
  have hjn := (perm_mem hp).mp hjm
  have h1 := hiS_le (ms := ms) (show k ≤ j by omega) hjn
  have h2 := high_le row ms j
  have h3 : ms.idxOf j < k + 1 := by
    have := idx_lt_of (l2 := ms.drop (k + 1)) hj
    rw [List.take_append_drop, List.length_take] at this
    omega
  omega
def csHi (row : List Int) (ms : List Nat) : List Nat := (List.range row.length).map (hiS row ms)
def csLo (row : List Int) (ms : List Nat) : List Nat := (List.range row.length).map (loS row ms)
theorem fnOf_map {n k : Nat} (f : Nat → Nat) (h : k < n) : fnOf ((List.range n).map f) k = f k := by
  rw [fnOf_get (by simpa using h)]; simp
theorem csHi_ok {row : List Int} {ms : List Nat} (hp : ms.Perm (List.range row.length)) : CntOk row.length (csHi row ms) := by
  refine ⟨by simp [csHi], fun i j h1 h2 => ?_, fun i hi => ?_⟩
  · unfold csHi; rw [fnOf_map _ (by omega), fnOf_map _ h2]; exact hiS_up h1 h2
  · unfold csHi; rw [fnOf_map _ hi]; exact hiS_le_self hp hi
theorem csLo_ok {row : List Int} {ms : List Nat} (hp : ms.Perm (List.range row.length)) (h : Poss row ms) : CntOk row.length (csLo row ms) := by
  refine ⟨by simp [csLo], fun i j h1 h2 => ?_, fun i hi => ?_⟩
  · unfold csLo; rw [fnOf_map _ (by omega), fnOf_map _ h2]; exact loS_up h1
  · unfold csLo; rw [fnOf_map _ hi]; exact Nat.le_trans (h.stairs hi) (hiS_le_self hp hi)
theorem csHi_fits {row : List Int} {ms : List Nat} (h : Poss row ms) : Fits row ms (fnOf (csHi row ms)) := by
  refine ⟨wrongL_nil.mp h.1, fun k hk => ?_, fun k hk => ?_⟩
  · unfold csHi; rw [fnOf_map _ hk]; exact Nat.le_trans (loS_ge (Nat.le_refl k)) (h.stairs hk)
  · unfold csHi; rw [fnOf_map _ hk]; exact hiS_le (Nat.le_refl k) hk
theorem csLo_fits {row : List Int} {ms : List Nat} (h : Poss row ms) : Fits row ms (fnOf (csLo row ms)) := by
  refine ⟨wrongL_nil.mp h.1, fun k hk => ?_, fun k hk => ?_⟩
  · unfold csLo; rw [fnOf_map _ hk]; exact loS_ge (Nat.le_refl k)
  · unfold csLo; rw [fnOf_map _ hk]; exact Nat.le_trans (h.stairs hk) (hiS_le (Nat.le_refl k) hk)
/-- histories and orders -/
theorem ord_iff {row : List Int} {ms w : List Nat} (hp : ms.Perm (List.range row.length)) (hw : HistW row.length w) : ordL row w = ms ↔ Fits row ms (fnOf (cntsL 0 w)) := by
  have hc := hw.cnt
  rw [ordL_tq hw]
  constructor
  · intro e
    have := tq_fits (row := row) (c := fnOf (cntsL 0 w)) hc.up hc.le
    rwa [e] at this
  · exact fun h => fits_tq hp h hc.up
theorem ord_word {row : List Int} {ms cs : List Nat} (hp : ms.Perm (List.range row.length)) (hc : CntOk row.length cs) (hf : Fits row ms (fnOf cs)) : HistW row.length (wordC row.length 0 cs) ∧ ordL row (wordC row.length 0 cs) = ms :=
  ⟨hc.hist, (ord_iff hp hc.hist).mpr (by rw [hc.cnts]; exact hf)⟩
theorem poss_iff {row : List Int} {ms : List Nat} (hp : ms.Perm (List.range row.length)) : Poss row ms ↔ ∃ w, HistW row.length w ∧ ordL row w = ms := by
  constructor
  · intro h
    exact ⟨_, ord_word hp (csHi_ok hp) (csHi_fits h)⟩
  · rintro ⟨w, hw, e⟩
    exact ((ord_iff hp hw).mp e).poss hw.cnt.up
theorem hist_poss {row : List Int} {w : List Nat} (hw : HistW row.length w) : Poss row (ordL row w) := (poss_iff (ordL_perm hw)).mpr ⟨w, hw, rfl⟩
end LawP
set_option Elab.async false
set_option linter.all false
namespace LawP
open PySem VL
/-! ### histories, tested -/
def goodB (n : Nat) : Nat → Nat → List Nat → Bool
  | a, s, [] => decide (a = n) && decide (s = n)
  | a, s, c :: w => (decide (c = 97) && (decide (a < n) && goodB n (a + 1) s w)) || (decide (c = 115) && (decide (s < a) && goodB n a (s + 1) w))
def histB (n : Nat) (p : PyData) : Bool := match p with
  | .str z => goodB n 0 0 (sl z)
  | _ => false
theorem good_counts {n : Nat} : ∀ {w : List Nat} {a s : Nat}, s ≤ a → a ≤ n → (goodW n a s w ↔ (a + w.count 97 = n ∧ s + w.count 115 = n ∧ a + s + w.length = 2 * n ∧ ∀ k, k < w.length → s + (w.take (k + 1)).count 115 ≤ a + (w.take (k + 1)).count 97))
  | [], a, s, _, _ => by simp [goodW]; omega
  | c :: w, a, s, h1, h2 => by
    constructor
    · rintro (⟨rfl, ha, h⟩ | ⟨rfl, ha, h⟩)
      · obtain ⟨e1, e2, e3, e4⟩ := (good_counts (w := w) (by omega) (by omega)).mp h
        refine ⟨by rw [List.count_cons_self]; omega, by rw [List.count_cons_of_ne (by decide)]; exact e2, by rw [List.length_cons]; omega, fun k hk => ?_⟩
        rw [List.take_succ_cons, List.count_cons_self, List.count_cons_of_ne (by decide)]
        cases k with
        | zero => simp; omega
        | succ k => have := e4 k (by simpa using hk); omega
      · obtain ⟨e1, e2, e3, e4⟩ := (good_counts (w := w) (by omega) (by omega)).mp h
        refine ⟨by rw [List.count_cons_of_ne (by decide)]; exact e1, by rw [List.count_cons_self]; omega, by rw [List.length_cons]; omega, fun k hk => ?_⟩
        rw [List.take_succ_cons, List.count_cons_self, List.count_cons_of_ne (by decide)]
        cases k with
        | zero => simp; omega
        | succ k => have := e4 k (by simpa using hk); omega
    · rintro ⟨e1, e2, e3, e4⟩
      rw [List.length_cons] at e3
      have hsum : w.count 97 + w.count 115 ≤ w.length := by
        clear e1 e2 e3 e4
        induction w with
        | nil => simp
        | cons d w ih =>
          by_cases c1 : d = 97
          · subst c1; rw [List.count_cons_self, List.count_cons_of_ne (by decide), List.length_cons]; omega
          · by_cases c2 : d = 115
            · subst c2; rw [List.count_cons_self, List.count_cons_of_ne (by decide), List.length_cons]; omega
            · rw [List.count_cons_of_ne c1, List.count_cons_of_ne c2, List.length_cons]; omega
      by_cases c1 : c = 97
      · subst c1
        rw [List.count_cons_self] at e1
        rw [List.count_cons_of_ne (by decide)] at e2
        refine .inl ⟨rfl, by omega, (good_counts (by omega) (by omega)).mpr ⟨by omega, e2, by omega, fun k hk => ?_⟩⟩
        have := e4 (k + 1) (by simpa using hk)
        rw [List.take_succ_cons, List.count_cons_self, List.count_cons_of_ne (by decide)] at this
        omega
      · by_cases c2 : c = 115
        · subst c2
          rw [List.count_cons_self] at e2
          rw [List.count_cons_of_ne (by decide)] at e1
          have h0 := e4 0 (by simp)
          simp at h0
          refine .inr ⟨rfl, by omega, (good_counts (by omega) (by omega)).mpr ⟨e1, by omega, by omega, fun k hk => ?_⟩⟩
          have := e4 (k + 1) (by simpa using hk)
          rw [List.take_succ_cons, List.count_cons_self, List.count_cons_of_ne (by decide)] at this
          omega
        · rw [List.count_cons_of_ne c1] at e1
          rw [List.count_cons_of_ne c2] at e2
          omega
theorem hist_counts {n : Nat} {w : List Nat} : HistW n w ↔ w.count 97 = n ∧ w.length = 2 * n ∧ w.count 115 = n ∧ ∀ k, k < w.length → (w.take (k + 1)).count 115 ≤ (w.take (k + 1)).count 97 := by
  unfold HistW
  rw [good_counts (Nat.le_refl _) (Nat.zero_le _)]
  simp only [Nat.zero_add]
  constructor
  · rintro ⟨a, b, c, d⟩; exact ⟨a, c, b, d⟩
  · rintro ⟨a, b, c, d⟩; exact ⟨a, c, b, d⟩
end LawP
set_option Elab.async false
set_option linter.all false
namespace LawP
open PySem VL
/-! ### all histories, letter by letter -/
theorem okP_goodW {n : Nat} : ∀ {w : List Nat} {a s : Nat}, okP n a s w → w.length + a + s = 2 * n → a ≤ n → s ≤ a → goodW n a s w
  | [], a, s, _, h1, h2, h3 => by simp at h1; exact ⟨by omega, by omega⟩
  | c :: w, a, s, h, h1, h2, h3 => by
    simp at h1
    rcases h with ⟨e, ha, h⟩ | ⟨e, ha, h⟩
    · exact .inl ⟨e, ha, okP_goodW h (by omega) (by omega) (by omega)⟩
    · exact .inr ⟨e, ha, okP_goodW h (by omega) (by omega) (by omega)⟩
theorem okP_snoc {n c : Nat} : ∀ {w : List Nat} {a s : Nat}, okP n a s (w ++ [c]) ↔ okP n a s w ∧ ((c = 97 ∧ a + w.count 97 < n) ∨ (c = 115 ∧ s + w.count 115 < a + w.count 97))
  | [], a, s => by simp [okP]
  | d :: w, a, s => by
    rw [List.cons_append]
    constructor
    · rintro (⟨rfl, ha, h⟩ | ⟨rfl, ha, h⟩)
      · obtain ⟨h1, h2⟩ := okP_snoc.mp h
        refine ⟨.inl ⟨rfl, ha, h1⟩, ?_⟩
        rw [List.count_cons_self, List.count_cons_of_ne (by decide)]
        rcases h2 with ⟨e, h2⟩ | ⟨e, h2⟩
        · exact .inl ⟨e, by omega⟩
        · exact .inr ⟨e, by omega⟩
      · obtain ⟨h1, h2⟩ := okP_snoc.mp h
        refine ⟨.inr ⟨rfl, ha, h1⟩, ?_⟩
        rw [List.count_cons_self, List.count_cons_of_ne (by decide)]
        rcases h2 with ⟨e, h2⟩ | ⟨e, h2⟩
        · exact .inl ⟨e, by omega⟩
        · exact .inr ⟨e, by omega⟩
    · rintro ⟨⟨rfl, ha, h⟩ | ⟨rfl, ha, h⟩, h2⟩
      · rw [List.count_cons_self, List.count_cons_of_ne (by decide)] at h2
        refine .inl ⟨rfl, ha, okP_snoc.mpr ⟨h, ?_⟩⟩
        rcases h2 with ⟨e, h2⟩ | ⟨e, h2⟩
        · exact .inl ⟨e, by omega⟩
        · exact .inr ⟨e, by omega⟩
      · rw [List.count_cons_self, List.count_cons_of_ne (by decide)] at h2
        refine .inr ⟨rfl, ha, okP_snoc.mpr ⟨h, ?_⟩⟩
        rcases h2 with ⟨e, h2⟩ | ⟨e, h2⟩
        · exact .inl ⟨e, by omega⟩
        · exact .inr ⟨e, by omega⟩
theorem okP_le {n : Nat} {w : List Nat} (h : okP n 0 0 w) : w.count 115 ≤ w.count 97 ∧ w.count 97 ≤ n := by
  rcases List.eq_nil_or_concat w with rfl | ⟨v, c, rfl⟩
  · simp
  · rw [List.concat_eq_append] at h ⊢
    obtain ⟨h1, h2⟩ := okP_snoc.mp h
    have ih := okP_le h1
    rw [List.count_append, List.count_append]
    rcases h2 with ⟨rfl, h2⟩ | ⟨rfl, h2⟩
    · simp; omega
    · simp; omega
termination_by w.length
decreasing_by subst_vars; simp
theorem hist_okP {n : Nat} {w : List Nat} : HistW n w ↔ okP n 0 0 w ∧ w.length = 2 * n :=
  ⟨fun h => ⟨goodW_okP h, h.len⟩, fun h => okP_goodW h.1 (by omega) (Nat.zero_le _) (Nat.le_refl _)⟩
end LawP
set_option Elab.async false
set_option linter.all false
set_option maxRecDepth 100000
set_option maxHeartbeats 4000000
namespace LawP
open PySem PySem.Spec PyProof.Rows L2 VL
end LawP
set_option Elab.async false
set_option linter.all false
set_option maxRecDepth 100000
set_option maxHeartbeats 4000000
namespace LawP
open PySem PySem.Spec PyProof.Rows L2 VL
end LawP
set_option Elab.async false
set_option linter.all false
set_option maxRecDepth 100000
set_option maxHeartbeats 4000000
namespace LawP
open PySem PySem.Spec PyProof.Rows L2 VL
/-! ### queue_with -/
@[simp] def S_queue_with : SV := fun ds Q _ => ∃ (ws : List Nat) (p : Nat) (m : Option Nat), ds = [.py (tN ws), .py (pN p), .py (oN m)] ∧ ws.length ≤ 100000 ∧ Q (.py (tN (joinQ ws p m)))
/-! ### steps_of -/
def stepP (p : Nat × Nat × List Nat) : PyData := .tuple [.str (mkS [p.1]), pN p.2.1, tN p.2.2]
@[simp] def S_steps_of : SV := fun ds Q _ => ∃ (row : List Int) (w : List Nat), ds = [.py (tI row), .py (.str (mkS w))] ∧ row.length ≤ 1000 ∧ w.length ≤ 100000 ∧ okP row.length 0 0 w ∧ Q (.py (.list ((stepsL row 0 [] w).map stepP)))
/-! ### check_word, run -/
@[simp] def S_check_word : SV
  | [.py (.tuple xs), .py p], Q, E => isSm p ∧ (wErr xs.length p = .none → Q (.py .none)) ∧ (wErr xs.length p ≠ .none → E ⟨"BadWord", [("error", wErr xs.length p)]⟩)
  | _, _, _ => False
def runP (row : List Int) (w : List Nat) : PyData := .tuple [tN (servedL (stepsL row 0 [] w)), tN (waitL (stepsL row 0 [] w))]
@[simp] def S_run : SV := fun ds Q E => ∃ (row : List Int) (p : PyData), ds = [.py (tI row), .py p] ∧ row.length ≤ 1000 ∧ isSm p ∧ (∀ w, p = .str (mkS w) → okP row.length 0 0 w → Q (.py (runP row w))) ∧ (wErr row.length p ≠ .none → E ⟨"BadWord", [("error", wErr row.length p)]⟩)
/-! ### the law's own queue -/
@[simp] def S_law_played : SV := fun ds Q _ => ∃ (row : List Int) (w : List Nat), ds = [.py (tI row), .py (.str (mkS w))] ∧ row.length ≤ 1000 ∧ w.length ≤ 100000 ∧ okP row.length 0 0 w ∧
  Q (.py (.list [tN (servedL (stepsL row 0 [] w)), tN (waitL (stepsL row 0 [] w)), .list ((stepsL row 0 [] w).map stepP)]))
/-! ### sizes -/
end LawP
set_option Elab.async false
set_option linter.all false
set_option maxRecDepth 100000
set_option maxHeartbeats 4000000
namespace LawP
open PySem PySem.Spec PyProof.Rows L2 VL
@[simp] def S_check_history : SV
  | [.py (.tuple xs), .py p], Q, E => isSm p ∧ xs.length ≤ 100000 ∧ (isHist xs.length p = true → Q (.py .none)) ∧ (isHist xs.length p = false → E ⟨"NoHistory", []⟩)
  | _, _, _ => False
/-! ### order_of, counts_of -/
def orderL (row : List Int) (w : List Nat) : List Nat := servedL (stepsL row 0 [] w)
/-- the number of services before each arrival -/
def countsL (w : List Nat) : List Nat := (w.zipIdx.filter fun p => p.1 == 97).map fun p => (w.take p.2).count 115
@[simp] def S_order_of : SV := fun ds Q E => ∃ (row : List Int) (p : PyData), ds = [.py (tI row), .py p] ∧ row.length ≤ 1000 ∧ isSm p ∧ (∀ w, p = .str (mkS w) → HistW row.length w → Q (.py (tN (orderL row w)))) ∧ (isHist row.length p = false → E ⟨"NoHistory", []⟩)
@[simp] def S_counts_of : SV := fun ds Q E => ∃ (row : List Int) (p : PyData), ds = [.py (tI row), .py p] ∧ row.length ≤ 1000 ∧ isSm p ∧ (∀ w, p = .str (mkS w) → HistW row.length w → Q (.py (tN (countsL w)))) ∧ (isHist row.length p = false → E ⟨"NoHistory", []⟩)
end LawP
set_option Elab.async false
set_option linter.all false
namespace LawP
open PySem VL
/-! ### where the letters stand -/
def posZ (c : Nat) (w : List Nat) : List Nat := (w.zipIdx.filter fun p => p.1 == c).map fun p => p.2
theorem posZ_snoc (c d : Nat) (w : List Nat) : posZ c (w ++ [d]) = posZ c w ++ (if d = c then [w.length] else []) := by
  unfold posZ
  rw [List.zipIdx_append, List.filter_append, List.map_append]
  congr 1
  by_cases h : d = c <;> simp [h]
theorem posZ_spec (c : Nat) : ∀ (w : List Nat), (posZ c w).length = w.count c ∧ ∀ j i, (posZ c w)[j]? = some i → w[i]? = some c ∧ (w.take i).count c = j := by
  intro w
  rcases List.eq_nil_or_concat w with rfl | ⟨v, d, rfl⟩
  · simp [posZ]
  · rw [List.concat_eq_append, posZ_snoc]
    obtain ⟨ih1, ih2⟩ := posZ_spec c v
    have old : ∀ j i, (posZ c v)[j]? = some i → (v ++ [d])[i]? = some c ∧ ((v ++ [d]).take i).count c = j := fun j i h => by
      obtain ⟨h1, h2⟩ := ih2 j i h
      have hi := (List.getElem?_eq_some_iff.mp h1).1
      rw [List.getElem?_append_left hi, List.take_append_of_le_length (by omega)]
      exact ⟨h1, h2⟩
    by_cases h : d = c
    · subst h
      rw [if_pos rfl]
      refine ⟨by rw [List.length_append, List.count_append, ih1]; simp, fun j i hj => ?_⟩
      rw [List.getElem?_append] at hj
      split at hj
      · exact old j i hj
      · rename_i hlt
        have : j = (posZ d v).length := by
          have := (List.getElem?_eq_some_iff.mp hj).1
          simp at this; omega
        subst this
        simp at hj
        subst hj
        refine ⟨by simp, ?_⟩
        rw [List.take_append_of_le_length (Nat.le_refl _), List.take_length, ih1]
    · rw [if_neg h, List.append_nil]
      exact ⟨by rw [List.count_append, ih1]; simp [h], old⟩
termination_by w => w.length
decreasing_by subst_vars; simp
theorem posZ_len (c : Nat) (w : List Nat) : (posZ c w).length = w.count c := (posZ_spec c w).1
theorem count_take_le {c : Nat} {w : List Nat} {i j : Nat} (h : i ≤ j) : (w.take i).count c ≤ (w.take j).count c := by
  have : w.take i = (w.take j).take i := by rw [List.take_take]; congr 1; omega
  rw [this]
  exact List.Sublist.count_le _ (List.take_sublist _ _)
/-- the arrival comes ahead of the service exactly if so many services are ahead of it at most -/
theorem pos_lt {w : List Nat} {p j a s : Nat} (ha : (posZ 97 w)[p]? = some a) (hs : (posZ 115 w)[j]? = some s) : a < s ↔ (w.take a).count 115 ≤ j := by
  obtain ⟨a1, a2⟩ := (posZ_spec 97 w).2 p a ha
  obtain ⟨s1, s2⟩ := (posZ_spec 115 w).2 j s hs
  constructor
  · intro h
    have := count_take_le (c := 115) (w := w) (Nat.le_of_lt h)
    omega
  · intro h
    refine Nat.lt_of_not_le fun hle => ?_
    have hne : s ≠ a := fun e => by subst e; rw [s1] at a1; cases a1
    have := count_take_le (c := 115) (w := w) (show s + 1 ≤ a by omega)
    rw [take_succ_get s1, List.count_append] at this
    simp at this
    omega
theorem countsL_posZ (w : List Nat) : countsL w = (posZ 97 w).map fun i => (w.take i).count 115 := by
  unfold countsL posZ
  rw [List.map_map]; rfl
end LawP
set_option Elab.async false
set_option linter.all false
set_option maxRecDepth 100000
set_option maxHeartbeats 4000000
namespace LawP
open PySem PySem.Spec PyProof.Rows L2 VL
/-! ### words drawn -/
@[simp] def S_g_word (r : Addr) : SV := fun ds Q _ => ∃ n : Nat, ds = [.raw (.ref r), .py (.int (n : Nat))] ∧ n ≤ 40 ∧ ∀ w, HistW n w → Q (.py (.str (mkS w)))
theorem l_g_word (r : Addr) : ∀ ds Q E, S_g_word r ds Q E → t_g_word (svTake r) (envOf 8 ds) (fin Q E) := by
  rintro ds Q E ⟨n, rfl, hn, q⟩
  simp [t_g_word]
  intro way y0 y1
  refine ⟨fun k ρ => ∃ (acc : List Nat) (a s : Nat) (x y : VL.Slot), ρ = [.shr (.raw (.ref r)), .shr (.py (.int (n : Nat))), .shr (.py (.str (mkS acc))), .shr (.py (.int ((a : Int) - s))), .shr (.py (.int ((n : Int) - a))), .shr (.py (.int way)), x, y] ∧ s ≤ a ∧ a ≤ n ∧ acc.length = a + s ∧ k = 2 * n - a - s ∧ (∀ w, goodW n a s w → HistW n (acc ++ w)), ⟨_, [], 0, 0, .un, .un, by simp, by omega, by omega, rfl, rfl, fun w h => h⟩, ?_⟩
  rintro k ρ ⟨acc, a, s, x, y, rfl, h1, h2, h3, h4, h5⟩
  have hS : ∀ x y : VL.Slot, s < a → ∃ m', m' < k ∧ ∃ (acc' : List Nat) (a' s' : Nat), (acc ++ [115] = acc' ∧ (a : Int) - s - 1 = (a' : Int) - s' ∧ (a : Int) = a') ∧ s' ≤ a' ∧ a' ≤ n ∧ acc'.length = a' + s' ∧ m' = 2 * n - a' - s' ∧ ∀ w, goodW n a' s' w → HistW n (acc' ++ w) := fun _ _ h => by
    refine ⟨_, ?_, acc ++ [115], a, s + 1, ⟨rfl, by omega, rfl⟩, by omega, h2, by simp; omega, rfl, fun w hw => ?_⟩
    · omega
    · rw [List.append_assoc]
      exact h5 (115 :: w) (.inr ⟨rfl, h, hw⟩)
  have hA : ∀ x y : VL.Slot, a < n → ∃ m', m' < k ∧ ∃ (acc' : List Nat) (a' s' : Nat), (acc ++ [97] = acc' ∧ (a : Int) - s + 1 = (a' : Int) - s' ∧ (n : Int) - a - 1 = (n : Int) - a') ∧ s' ≤ a' ∧ a' ≤ n ∧ acc'.length = a' + s' ∧ m' = 2 * n - a' - s' ∧ ∀ w, goodW n a' s' w → HistW n (acc' ++ w) := fun _ _ h => by
    refine ⟨_, ?_, acc ++ [97], a + 1, s, ⟨rfl, by omega, by omega⟩, by omega, by omega, by simp; omega, rfl, fun w hw => ?_⟩
    · omega
    · rw [List.append_assoc]
      exact h5 (97 :: w) (.inl ⟨rfl, h, hw⟩)
  simp
  split
  · rename_i c
    obtain ⟨d, hd, hm⟩ := atI_ok (xs := [PyData.int 2, PyData.int 3, PyData.int 7, PyData.int 2]) (i := way) (by omega) (by simp; omega)
    obtain ⟨v, rfl, v0, v1⟩ : ∃ v : Int, d = .int v ∧ 0 < v ∧ v < 1606938044258990275541962092341162602522202993782792835301376 := by
      simp only [List.mem_cons, List.not_mem_nil, or_false] at hm
      rcases hm with rfl | rfl | rfl | rfl <;> exact ⟨_, rfl, by omega, by omega⟩
    refine ⟨_, hd, ?_⟩
    simp
    refine ⟨v0, v1, fun z z0 z1 => ?_⟩
    have fin : ∀ b1 b2 b3 b4 : Bool, ∃ b, atI [PyData.bool b1, PyData.bool b2, PyData.bool b3, PyData.bool b4] way = some (.bool b) := fun b1 b2 b3 b4 => by
      obtain ⟨d, hd, hm⟩ := atI_ok (xs := [PyData.bool b1, PyData.bool b2, PyData.bool b3, PyData.bool b4]) (i := way) (by omega) (by simp; omega)
      simp only [List.mem_cons, List.not_mem_nil, or_false] at hm
      rcases hm with rfl | rfl | rfl | rfl <;> exact ⟨_, hd⟩
    have step : ∀ b : Bool, if s < a then (if (n : Int) - a = 0 then acc.length ≤ 16777215 ∧ ∃ m', m' < k ∧ ∃ (acc' : List Nat) (a' s' : Nat), (acc ++ [115] = acc' ∧ (a : Int) - s - 1 = (a' : Int) - s' ∧ (a : Int) = a') ∧ s' ≤ a' ∧ a' ≤ n ∧ acc'.length = a' + s' ∧ m' = 2 * n - a' - s' ∧ ∀ w, goodW n a' s' w → HistW n (acc' ++ w)
        else (if b = true then acc.length ≤ 16777215 ∧ ∃ m', m' < k ∧ ∃ (acc' : List Nat) (a' s' : Nat), (acc ++ [115] = acc' ∧ (a : Int) - s - 1 = (a' : Int) - s' ∧ (a : Int) = a') ∧ s' ≤ a' ∧ a' ≤ n ∧ acc'.length = a' + s' ∧ m' = 2 * n - a' - s' ∧ ∀ w, goodW n a' s' w → HistW n (acc' ++ w)
          else acc.length ≤ 16777215 ∧ ∃ m', m' < k ∧ ∃ (acc' : List Nat) (a' s' : Nat), (acc ++ [97] = acc' ∧ (a : Int) - s + 1 = (a' : Int) - s' ∧ (n : Int) - a - 1 = (n : Int) - a') ∧ s' ≤ a' ∧ a' ≤ n ∧ acc'.length = a' + s' ∧ m' = 2 * n - a' - s' ∧ ∀ w, goodW n a' s' w → HistW n (acc' ++ w)))
      else acc.length ≤ 16777215 ∧ ∃ m', m' < k ∧ ∃ (acc' : List Nat) (a' s' : Nat), (acc ++ [97] = acc' ∧ (a : Int) - s + 1 = (a' : Int) - s' ∧ (n : Int) - a - 1 = (n : Int) - a') ∧ s' ≤ a' ∧ a' ≤ n ∧ acc'.length = a' + s' ∧ m' = 2 * n - a' - s' ∧ ∀ w, goodW n a' s' w → HistW n (acc' ++ w) := fun b => by
      split
      · rename_i hsa
        split
        · exact ⟨by omega, hS .un .un hsa⟩
        · rename_i hna
          split
          · exact ⟨by omega, hS .un .un hsa⟩
          · exact ⟨by omega, hA .un .un (by omega)⟩
      · exact ⟨by omega, hA .un .un (by omega)⟩
    split
    · obtain ⟨b, hb⟩ := fin (z == 0) (decide (0 < z)) (z == 0) (z == 0)
      refine ⟨_, hb, ?_⟩
      simpa using step b
    · obtain ⟨b, hb⟩ := fin (z == 0) (decide (0 < z)) (z == 0) false
      refine ⟨_, hb, ?_⟩
      simpa using step b
  · rename_i c
    have e1 : a = n := by omega
    have e2 : s = n := by omega
    subst e1 e2
    have := h5 [] ⟨by omega, by omega⟩
    rw [List.append_nil] at this
    exact q acc this
/-! ### arrivals and services of a history -/
def srvL (row : List Int) (w : List Nat) : List Nat := (List.range row.length).map fun k => (posZ 115 w).getD ((ordL row w).idxOf k) 0
def evtP (row : List Int) (w : List Nat) : PyData := .list [.list ((posZ 97 w).map pN), .list ((srvL row w).map pN), tN (ordL row w)]
@[simp] def S_g_events : SV := fun ds Q _ => ∃ (row : List Int) (w : List Nat), ds = [.py (tI row), .py (.str (mkS w))] ∧ row.length ≤ 40 ∧ HistW row.length w ∧ Q (.py (evtP row w))
theorem l_g_events : ∀ ds Q E, S_g_events ds Q E → t_g_events (envOf 12 ds) (fin Q E) := by
  rintro ds Q E ⟨row, w, rfl, hr, hw, q⟩
  have hwl := hw.len
  simp [t_g_events, signsD_mkS, enumP_enc, -forGo, -lcGo]
  refine ⟨by omega, ?_⟩
  have e0 : List.replicate row.length (PyData.int 0) = (List.replicate row.length 0).map pN := by simp [pN]
  rw [e0]
  refine for_enc' (encE encC) (fun k ρ => ∃ (a s : Nat) (ws sl sv : List Nat) (x6 x7 x8 x9 x10 : VL.Slot), ρ = [.shr (.py (tI row)), .shr (.py (.str (mkS w))), .own (.py (.list (ws.map pN))), .own (.py (.list ((posZ 97 (w.take k)).map pN))), .own (.py (.list (sl.map pN))), .own (.py (.list (sv.map pN))), x6, x7, x8, x9, x10, .un] ∧
    goodW row.length a s (w.drop k) ∧ ws.length + s = a ∧ a ≤ row.length ∧ sv.length = s ∧ sv ++ servedL (stepsL row a ws (w.drop k)) = ordL row w ∧ QInv row a ws ∧ (sv ++ ws).Perm (List.range a) ∧ sl.length = row.length ∧ (posZ 97 (w.take k)).length = a ∧ (posZ 115 (w.take k)).length = s ∧
    ∀ (j p : Nat), sv[j]? = some p → sl[p]? = (posZ 115 (w.take k))[j]?) ⟨0, 0, [], _, [], .un, .un, .un, .un, .un, rfl, hw, rfl, Nat.zero_le _, rfl, rfl, .nil _ _, .refl _, by simp, rfl, rfl, by simp⟩ (fun k p ρ hp iv nx ct hn => ?_) (fun ρ iv => ?_)
  · obtain ⟨a, s, ws, sl, sv, x6, x7, x8, x9, x10, rfl, h1, h2, h3, h4, h5, h6, h7, h8, h9, h10, h11⟩ := iv
    obtain ⟨c, hc, rfl⟩ := zipIdx_at hp
    have hk := (List.getElem?_eq_some_iff.mp hc).1
    have ht := take_succ_get hc
    have p97 := posZ_snoc 97 c (w.take k)
    have p115 := posZ_snoc 115 c (w.take k)
    rw [← ht, List.length_take, Nat.min_eq_left (Nat.le_of_lt hk)] at p97 p115
    rw [drop_at' hc] at h1 h5
    rcases h1 with ⟨rfl, ha, h1⟩ | ⟨rfl, ha, h1⟩
    · rw [stepsL_a, servedL_a] at h5
      simp at p97 p115
      obtain ⟨g, hg⟩ : ∃ g, row[a]? = some g := ⟨row[a], List.getElem?_eq_getElem ha⟩
      have hna : a ∉ ws := fun m => by have := h6.lt a m; omega
      have step : ∀ (i : Nat) (y9 y10 : VL.Slot), i = joinPl ws (mateOf row a) → nx [.shr (.py (tI row)), .shr (.py (.str (mkS w))), .own (.py (.list ((ws.map pN).take i ++ pN a :: (ws.map pN).drop i))), .own (.py (.list ((posZ 97 (w.take k)).map pN ++ [pN k]))), .own (.py (.list (sl.map pN))), .own (.py (.list (sv.map pN))), .shr (.py (.int (k : Nat))), .shr (.py (.str (mkS [97]))), .shr (.py (.int (a : Nat))), y9, y10, .un] := fun i y9 y10 e => by
        refine (hn _ ⟨a + 1, s, joinQ ws a (mateOf row a), sl, sv, .shr (.py (.int (k : Nat))), .shr (.py (.str (mkS [97]))), .shr (.py (.int (a : Nat))), y9, y10, ?_, h1, by rw [joinQ_len]; omega, ha, h4, h5, h6.join hg, ?_, h8, by rw [p97]; simp [h9], by rw [p115]; exact h10, by rw [p115]; exact h11⟩).1
        · have ej : (joinQ ws a (mateOf row a)).map pN = (ws.map pN).take i ++ pN a :: (ws.map pN).drop i := by
            unfold joinQ insAt; rw [← e]; simp
          rw [ej, p97, List.map_append]; rfl
        · rw [List.range_succ]
          refine ((joinQ_perm ws a _).append_left sv).trans ?_
          refine List.perm_middle.trans ?_
          exact (h7.cons a).trans (List.perm_append_comm (l₁ := [a]))
      simp [-lcGo]
      simp only [h9]
      refine lc_encF' pN (fun x => row[x]? == row[a]?) pN (fun i x hx kk k1 k2 => ?_) (by omega) ?_
      · have hxa := h6.lt x (List.mem_of_getElem? hx)
        have g1 : row[x]? = some row[x] := List.getElem?_eq_getElem (by omega)
        simp [lcStep]
        refine ⟨_, atI_map g1, _, atI_map hg, ?_⟩
        rw [g1, hg] at k1 k2
        by_cases e : row[x] = g
        · simp [e] at k1 ⊢; exact k1
        · simp [e] at k2 ⊢; exact k2
      · have ea : List.filter (fun x => row[x]? == row[a]?) ws = alike row ws a := rfl
        rw [ea]
        have al := alike_last h6 hg
        rcases List.eq_nil_or_concat (alike row ws a) with hA | ⟨L', m, hA⟩
        · rw [hA] at al ⊢
          simp at al ⊢
          have := step ws.length (.shr (.py (.list []))) (.shr (.py (.int (ws.length : Nat)))) al.symm
          exact ⟨by omega, by omega, by omega, this⟩
        · rw [hA] at al ⊢
          have hm : m ∈ ws := by
            have : m ∈ alike row ws a := by rw [hA]; simp
            exact (List.mem_filter.mp this).1
          rw [List.concat_eq_append] at al ⊢
          simp at al ⊢
          have hi := idx_app hm
          exact ⟨pN m, atI_last _ _, pn_plain _, rfl, .inl (Nat.zero_le _), ws.idxOf m, pn_ix hm, by omega, by omega, by omega, by omega, step _ _ _ al.symm⟩
    · cases ws with
      | nil => simp at h2; omega
      | cons x ws =>
        rw [stepsL_s, servedL_s] at h5
        simp at p97 p115 h2
        subst h4
        have hxa : x < a := h6.lt x List.mem_cons_self
        have hnd := h7.symm.nodup List.nodup_range
        have hxsv : x ∉ sv := fun h => (List.nodup_append.mp hnd).2.2 x h x List.mem_cons_self rfl
        simp [-lcGo]
        refine ⟨by omega, 0, rfl, pN x, rfl, ?_⟩
        simp [pN]
        refine ⟨(sl.set x k).map pN, ?_, by omega, (hn _ ⟨a, sv.length + 1, ws, sl.set x k, sv ++ [x], .shr (.py (.int (k : Nat))), .shr (.py (.str (mkS [115]))), .shr (.py (pN x)), x9, x10, ?_, h1, by omega, h3, by simp, by rw [List.append_assoc]; exact h5, h6.serve, by rw [List.append_assoc]; exact h7, by simpa using h8, by rw [p97]; exact h9, by rw [p115]; simp [h10], fun j p hj => ?_⟩).1⟩
        · unfold setAt
          rw [show ixN (sl.map pN).length (x : Int) = some x by unfold ixN; simp; omega]
          simp [pN]
        · rw [p97, List.map_append]; rfl
        · rw [p115]
          by_cases e : j < sv.length
          · rw [List.getElem?_append_left e] at hj
            have hp : p ∈ sv := List.mem_of_getElem? hj
            have : x ≠ p := fun e => hxsv (e ▸ hp)
            rw [List.getElem?_set_ne this, List.getElem?_append_left (by omega)]
            exact h11 j p hj
          · rw [List.getElem?_append_right (by omega)] at hj
            have e2 : j = sv.length := by
              have := (List.getElem?_eq_some_iff.mp hj).1
              simp at this; omega
            subst e2
            simp at hj
            subst hj
            rw [List.getElem?_set_self (by omega), List.getElem?_append_right (by omega)]
            simp [h10]
  · obtain ⟨a, s, ws, sl, sv, x6, x7, x8, x9, x10, rfl, h1, h2, h3, h4, h5, h6, h7, h8, h9, h10, h11⟩ := iv
    rw [List.length_zipIdx] at h1 h5 h9 h10 h11 ⊢
    rw [List.drop_length] at h1 h5
    rw [List.take_length] at h9 h10 h11 ⊢
    obtain ⟨rfl, rfl⟩ := h1
    simp [stepsL, servedL] at h5
    subst h5
    have hp := ordL_perm hw
    have es : sl = srvL row w := by
      refine List.ext_getElem? fun k => ?_
      unfold srvL
      rw [List.getElem?_map]
      by_cases hk : k < row.length
      · rw [List.getElem?_range hk]
        have hkm := (perm_mem hp).mpr hk
        have hi := List.idxOf_lt_length_of_mem hkm
        rw [h11 _ _ (idx_get hkm)]
        simp only [Option.map_some, List.getD_eq_getElem?_getD]
        rw [List.getElem?_eq_getElem (by omega)]
        rfl
      · rw [List.getElem?_eq_none (by omega), List.getElem?_eq_none (by simp; omega)]; rfl
    subst es
    simp
    exact q
/-! ### demands met -/
def demD (d : Bool × Nat × Nat) : PyData := demT d.1 d.2.1 d.2.2
def arrAt (w : List Nat) (x : Nat) : Nat := (posZ 97 w).getD x 0
def srvAt (row : List Int) (w : List Nat) (y : Nat) : Nat := (posZ 115 w).getD ((ordL row w).idxOf y) 0
def meetB (row : List Int) (w : List Nat) (d : Bool × Nat × Nat) : Bool := decide (arrAt w d.2.1 < srvAt row w d.2.2) == d.1
theorem srv_at {row : List Int} {w : List Nat} {y : Nat} (h : y < row.length) : atI ((srvL row w).map pN) (y : Int) = some (pN (srvAt row w y)) := atI_map (by unfold srvL; rw [List.getElem?_map, List.getElem?_range h]; rfl)
theorem posZ_97 {n : Nat} {w : List Nat} (h : HistW n w) : (posZ 97 w).length = n := by rw [posZ_len]; exact (hist_counts.mp h).1
theorem posZ_115 {n : Nat} {w : List Nat} (h : HistW n w) : (posZ 115 w).length = n := by rw [posZ_len]; exact (hist_counts.mp h).2.2.1
theorem arr_at {n : Nat} {w : List Nat} {x : Nat} (hw : HistW n w) (h : x < n) : atI ((posZ 97 w).map pN) (x : Int) = some (pN (arrAt w x)) := atI_map (by
  have := posZ_97 hw
  unfold arrAt
  rw [List.getD_eq_getElem?_getD, List.getElem?_eq_getElem (by omega)]; rfl)
theorem kind_soon (k : Bool) : ((if k then Str.ofString "soon" else Str.ofString "late") == Str.ofString "soon") = k := by cases k <;> decide +kernel
@[simp] def S_g_meets : SV := fun ds Q _ => ∃ (row : List Int) (w : List Nat) (d : Bool × Nat × Nat), ds = [.py (evtP row w), .py (demD d)] ∧ HistW row.length w ∧ d.2.1 < row.length ∧ d.2.2 < row.length ∧ Q (.py (.bool (meetB row w d)))
theorem l_g_meets : ∀ ds Q E, S_g_meets ds Q E → t_g_meets (envOf 5 ds) (fin Q E) := by
  rintro ds Q E ⟨row, w, ⟨k, x, y⟩, rfl, hw, hx, hy, q⟩
  have a1 := arr_at hw hx
  have a2 := srv_at (w := w) hy
  simp [t_g_meets, evtP, demD, demT, pN]
  refine ⟨_, a1, _, a2, ?_⟩
  rw [kind_soon]
  unfold meetB at q
  simp [pN, PyData.plain, PyData.depth, PyData.eqv] at q ⊢
  exact q
@[simp] def S_g_demands (r : Addr) : SV := fun ds Q _ => ∃ (row : List Int) (w : List Nat) (m : Nat), ds = [.raw (.ref r), .py (tI row), .py (evtP row w), .py (.int (m : Nat))] ∧ row ≠ [] ∧ row.length ≤ 40 ∧ m ≤ 1000 ∧ HistW row.length w ∧
  ∀ L : List (Bool × Nat × Nat), L.length ≤ m → (∀ d ∈ L, d.2.1 < row.length ∧ d.2.2 < row.length) → Q (.py (.tuple (L.map demD)))
theorem l_g_demands (r : Addr) : ∀ ds Q E, S_g_demands r ds Q E → t_g_demands (svTake r) (S_g_demand r) S_g_meets (envOf 7 ds) (fin Q E) := by
  rintro ds Q E ⟨row, w, m, rfl, h0, h1, hm, hw, q⟩
  simp [t_g_demands, -forGo, -S_g_demand, -S_g_meets]
  refine ⟨by omega, fun c c0 c1 => ?_⟩
  obtain ⟨c, rfl⟩ : ∃ n : Nat, c = n := ⟨c.toNat, by omega⟩
  refine ⟨by simp only [small62]; omega, ?_⟩
  rw [rangeP_eq]
  refine for_enc (encR 0) (fun i ρ => ∃ (L : List (Bool × Nat × Nat)) (x y : VL.Slot), ρ = [.shr (.raw (.ref r)), .shr (.py (tI row)), .shr (.py (evtP row w)), .shr (.py (.int (m : Nat))), .own (.py (.list (L.map demD))), x, y] ∧ L.length = i ∧ ∀ d ∈ L, d.2.1 < row.length ∧ d.2.2 < row.length) ⟨[], _, _, rfl, rfl, by simp⟩ (fun i k ρ hk iv nx ct hn => ?_) (fun ρ iv => ?_)
  · obtain ⟨L, x, y, rfl, i1, i2⟩ := iv
    obtain ⟨rfl, hk⟩ := range_get hk
    have step : ∀ (d : Bool × Nat × Nat) (x y : VL.Slot), d.2.1 < row.length → d.2.2 < row.length → nx [.shr (.raw (.ref r)), .shr (.py (tI row)), .shr (.py (evtP row w)), .shr (.py (.int (m : Nat))), .own (.py (.list (L.map demD ++ [demD d]))), x, y] := fun d x y h1 h2 =>
      (hn _ ⟨L ++ [d], x, y, by rw [List.map_append]; rfl, by rw [List.length_append, i1]; rfl, fun e he => by
        rcases List.mem_append.mp he with h | h
        · exact i2 e h
        · rw [List.mem_singleton.mp h]; exact ⟨h1, h2⟩⟩).1
    simp [-S_g_demand, -S_g_meets]
    refine ⟨row, rfl, h0, h1, fun b u v hu hv => ?_⟩
    simp [-S_g_meets]
    refine ⟨row, w, (b, u, v), rfl, hw, hu, hv, ?_⟩
    have ls : (Str.ofString "late" == Str.ofString "soon") = false := by decide +kernel
    cases hm : meetB row w (b, u, v) with
    | true =>
      simp
      exact ⟨by omega, step (b, u, v) _ _ hu hv⟩
    | false =>
      simp
      refine fun z z0 z1 => ?_
      split
      · cases b
        · simp [demT, ls, pN]
          exact ⟨by omega, step (true, u, v) _ _ hu hv⟩
        · simp [demT, pN]
          exact ⟨by omega, step (false, u, v) _ _ hu hv⟩
      · exact ⟨by omega, step (b, u, v) _ _ hu hv⟩
  · obtain ⟨L, x, y, rfl, i1, i2⟩ := iv
    rw [List.length_range] at i1
    simp
    exact q L (by omega) i2
/-! ### demands judged -/
theorem isPer_pN (n x : Nat) : isPer n (pN x) = decide (x < n) := by
  simp [isPer, pN]
theorem dem_ok {n : Nat} {d : Bool × Nat × Nat} (h1 : d.2.1 < n) (h2 : d.2.2 < n) : demB n (demD d) = true := by
  obtain ⟨k, x, y⟩ := d
  show ((_ == Str.ofString "soon" || _ == Str.ofString "late") && (isPer n (pN x) && isPer n (pN y))) = true
  rw [isPer_pN, isPer_pN]
  have : ((if k = true then Str.ofString "soon" else Str.ofString "late") == Str.ofString "soon" || (if k = true then Str.ofString "soon" else Str.ofString "late") == Str.ofString "late") = true := by cases k <;> decide +kernel
  simp only at h1 h2
  rw [this]
  simp [h1, h2]
theorem dem_of {n : Nat} {p : PyData} (h : demB n p = true) : ∃ d, p = demD d ∧ d.2.1 < n ∧ d.2.2 < n := by
  unfold demB at h
  split at h
  · rename_i k a b
    rw [Bool.and_eq_true, Bool.and_eq_true] at h
    obtain ⟨hk, ha, hb⟩ := h
    have per : ∀ a : PyData, isPer n a = true → ∃ x : Nat, a = pN x ∧ x < n := fun a ha => by
      unfold isPer at ha
      split at ha
      · rename_i i
        simp at ha
        exact ⟨i.toNat, by unfold pN; congr 1; omega, by omega⟩
      · cases ha
    obtain ⟨x, rfl, hx⟩ := per a ha
    obtain ⟨y, rfl, hy⟩ := per b hb
    rw [Bool.or_eq_true] at hk
    rcases hk with hk | hk
    · have : k = Str.ofString "soon" := by simpa using hk
      subst this
      exact ⟨(true, x, y), rfl, hx, hy⟩
    · have : k = Str.ofString "late" := by simpa using hk
      subst this
      exact ⟨(false, x, y), rfl, hx, hy⟩
  · cases h
theorem wrongs_nil {n : Nat} : ∀ {xs : List PyData} {k : Nat}, wrongs n k xs = [] → ∃ L : List (Bool × Nat × Nat), xs = L.map demD ∧ ∀ d ∈ L, d.2.1 < n ∧ d.2.2 < n
  | [], _, _ => ⟨[], rfl, by simp⟩
  | x :: xs, k, h => by
    rw [wrongs_cons] at h
    split at h
    · rename_i hx
      obtain ⟨d, rfl, h1, h2⟩ := dem_of hx
      obtain ⟨L, rfl, h3⟩ := wrongs_nil h
      refine ⟨d :: L, rfl, fun e he => ?_⟩
      rcases List.mem_cons.mp he with rfl | he
      · exact ⟨h1, h2⟩
      · exact h3 e he
    · cases h
theorem wrongs_ok {n : Nat} : ∀ {L : List (Bool × Nat × Nat)} {k : Nat} (r : List PyData), (∀ d ∈ L, d.2.1 < n ∧ d.2.2 < n) → wrongs n k (L.map demD ++ r) = wrongs n (k + L.length) r
  | [], k, r, _ => rfl
  | d :: L, k, r, h => by
    rw [List.map_cons, List.cons_append, wrongs_cons, if_pos (dem_ok (h d List.mem_cons_self).1 (h d List.mem_cons_self).2), wrongs_ok r fun e he => h e (List.mem_cons_of_mem _ he)]
    congr 1
    rw [List.length_cons]; omega
theorem demErr_none {n : Nat} {p : PyData} (h : demErr n p = .none) : ∃ L : List (Bool × Nat × Nat), p = .tuple (L.map demD) ∧ L.length ≤ 30 ∧ ∀ d ∈ L, d.2.1 < n ∧ d.2.2 < n := by
  cases p <;> simp [demErr] at h
  rename_i xs
  by_cases h30 : xs.length ≤ 30
  · rw [if_pos h30] at h
    cases hw : wrongs n 0 xs with
    | cons k r => rw [hw] at h; cases h
    | nil =>
      obtain ⟨L, rfl, hv⟩ := wrongs_nil hw
      exact ⟨L, rfl, by simpa using h30, hv⟩
  · rw [if_neg h30] at h; cases h
theorem demErr_ok {n : Nat} {L : List (Bool × Nat × Nat)} (h : L.length ≤ 30) (hv : ∀ d ∈ L, d.2.1 < n ∧ d.2.2 < n) : demErr n (.tuple (L.map demD)) = .none := by
  have := wrongs_ok (n := n) (k := 0) [] hv
  rw [List.append_nil] at this
  simp [demErr, h, this, wrongs]
theorem demErr_or (n : Nat) (p : PyData) : demErr n p = .none ∨ ∃ a b, demErr n p = .tuple [a, b] := by
  cases p <;> simp [demErr]
  rename_i xs
  by_cases h30 : xs.length ≤ 30
  · rw [if_pos h30]
    cases wrongs n 0 xs with
    | cons k r => exact .inr ⟨_, _, rfl⟩
    | nil => exact .inl rfl
  · rw [if_neg h30]; exact .inr ⟨_, _, rfl⟩
@[simp] def S_require_demands : SV := fun ds Q E => ∃ (row : List Int) (p : PyData), ds = [.py (tI row), .py p] ∧ isLen p ∧ (demErr row.length p = .none → Q (.py .none)) ∧ (∀ a b, demErr row.length p = .tuple [a, b] → E ⟨"BadDemand", [("index", a)]⟩)
theorem l_require_demands : ∀ ds Q E, S_require_demands ds Q E → t_require_demands S_demands_error (envOf 3 ds) (fin Q E) := by
  rintro ds Q E ⟨row, p, rfl, hl, q1, q2⟩
  simp [t_require_demands]
  refine ⟨row, p, ⟨rfl, rfl⟩, hl, ?_⟩
  rcases demErr_or row.length p with h | ⟨a, b, h⟩
  · rw [h]; simpa using q1 h
  · rw [h]; simpa using q2 a b h
/-! ### places of an order -/
@[simp] def S_places_of : SV := fun ds Q E => ∃ (row : List Int) (p : PyData), ds = [.py (tI row), .py p] ∧ row ≠ [] ∧ row.length ≤ 40 ∧ isLen p ∧ (∀ ms, p = tN ms → ms.Perm (List.range row.length) → Q (.py (.list ((placesL ms).map pN)))) ∧ (ordB row.length p = false → E ⟨"NoOrder", []⟩)
theorem l_places_of : ∀ ds Q E, S_places_of ds Q E → t_places_of S_is_person (envOf 3 ds) (fin Q E) := by
  rintro ds Q E ⟨row, p, rfl, h0, h1, hl, q1, q2⟩
  cases p
  case tuple xs =>
    have hxs := hl xs rfl
    simp [t_places_of, -lcGo]
    have el : (xs.map D.py) = (xs.map id).map D.py := by simp
    rw [el]
    refine lc_encM id (fun x => .bool (isPer row.length x)) (fun i x hx k k1 => ?_) (by omega) ?_
    · simp [lcStep]
      exact ⟨row, x, ⟨rfl, rfl⟩, k1⟩
    · have eb : xs.map (fun x => PyData.bool (isPer row.length x)) = (xs.map fun x => isPer row.length x).map PyData.bool := by simp
      rw [eb]
      simp [-lcGo]
      refine ⟨xs.map fun x => isPer row.length x, by have h := allB_mk (xs.map fun x => isPer row.length x); rw [List.map_map] at h; exact h, ?_⟩
      have pl : ∀ a : List Int, PyData.plainAll (a.map PyData.int) = true := fun a => plainAll_ints a
      have hnp : 0 < row.length := List.length_pos_iff.mpr h0
      obtain ⟨x0, r0, er⟩ := rng_cons hnp
      cases ho : ordB row.length (.tuple xs) with
      | true =>
        obtain ⟨ms, e, hp⟩ := ordB_iff.mp ho
        have e : xs = ms.map pN := by unfold tN at e; injection e
        subst e
        have hml := perm_len hp
        have hs : sortI (ms.map fun (k : Nat) => (k : Int)) = rngI row.length := (sortI_eq (hp.map _).symm (rngI_sorted _)).symm
        rw [if_neg (fun h => by
          obtain ⟨y, hy, e⟩ := List.mem_map.mp h
          obtain ⟨k, hk, rfl⟩ := List.mem_map.mp hy
          have := (perm_mem hp).mp hk
          simp [isPer, pN] at e
          omega)]
        refine ⟨_, allI_pN ms, by omega, ?_⟩
        rw [hs, rangeP_rng, er]
        simp [-lcGo, PyData.plain, PyData.plainAll, PyData.depth, PyData.depthAll, PyData.eqv, PyData.eqvAll, pl, ints_eqv, depth_ints]
        refine ⟨by omega, ?_⟩
        have e2 : (D.py (PyData.int x0) :: List.map (D.py ∘ PyData.int) r0) = ((List.range row.length).map pN).map D.py := by
          have : rngI row.length = (List.range row.length).map fun (k : Nat) => (k : Int) := rfl
          rw [← List.map_map, ← List.map_cons (f := D.py), ← List.map_cons (f := PyData.int), ← er, this]; simp only [List.map_map]; rfl
        rw [e2]
        refine lc_encM pN (fun k => pN (ms.idxOf k)) (fun i k hk kk k1 => ?_) (by simp; omega) ?_
        · have hk := List.mem_range.mp (List.mem_of_getElem? hk)
          simp [lcStep, pN]
          exact ⟨pn_plain _, _, pn_ix ((perm_mem hp).mpr hk), k1⟩
        · have := q1 ms rfl hp
          rw [placesL_map hml] at this
          exact this
      | false =>
        have q := q2 ho
        split
        · exact q
        · rename_i hno
          have hall : ∀ y ∈ xs, isPer row.length y = true := fun y hy => by
            cases hb : isPer row.length y with
            | true => rfl
            | false => exact absurd (List.mem_map.mpr ⟨y, hy, hb⟩) hno
          obtain ⟨ks, rfl⟩ : ∃ ks : List Nat, xs = ks.map pN := by
            clear hno ho q1 q2 q hl hxs el eb
            induction xs with
            | nil => exact ⟨[], rfl⟩
            | cons y ys ih =>
              obtain ⟨ks, rfl⟩ := ih fun z hz => hall z (List.mem_cons_of_mem _ hz)
              have h := hall y List.mem_cons_self
              unfold isPer at h
              split at h
              · rename_i i
                simp at h
                exact ⟨i.toNat :: ks, by rw [List.map_cons]; congr 1; unfold pN; congr 1; omega⟩
              · cases h
          have hs : ¬ sortI (ks.map fun (k : Nat) => (k : Int)) = rngI row.length := fun h => by
            have p : (ks.map fun (k : Nat) => (k : Int)).Perm (rngI row.length) := by rw [← h]; exact (sortI_perm _).symm
            have p2 := p.map Int.toNat
            rw [rngI_nat, List.map_map] at p2
            have e : (Int.toNat ∘ fun (k : Nat) => (k : Int)) = id := by funext k; simp
            rw [e, List.map_id] at p2
            have := ordB_tN p2
            unfold tN at this
            rw [ho] at this; cases this
          refine ⟨_, allI_pN ks, by omega, ?_⟩
          rw [rangeP_rng]
          rw [er] at hs ⊢
          simp [-lcGo, PyData.plain, PyData.plainAll, PyData.depth, PyData.depthAll, PyData.eqv, PyData.eqvAll, pl]
          rw [← List.map_cons (f := PyData.int), ints_eqv, decide_eq_false hs]
          exact ⟨.inr (by rw [depth_ints]; omega), by simpa using q⟩
  all_goals (simp [t_places_of, ordB] at q2 ⊢; exact q2)
/-! ### demands that are not met -/
def unmetL (row : List Int) (w : List Nat) (L : List (Bool × Nat × Nat)) : List Nat := (L.zipIdx.filter fun d => !meetB row w d.1).map fun d => d.2
def cntAt (w : List Nat) (x : Nat) : Nat := (w.take (arrAt w x)).count 115
theorem arr_get {n : Nat} {w : List Nat} {x : Nat} (hw : HistW n w) (h : x < n) : (posZ 97 w)[x]? = some (arrAt w x) := by
  have := posZ_97 hw
  unfold arrAt
  rw [List.getD_eq_getElem?_getD, List.getElem?_eq_getElem (by omega)]; rfl
theorem srv_get {row : List Int} {w : List Nat} {y : Nat} (hw : HistW row.length w) (h : y < row.length) : (posZ 115 w)[(ordL row w).idxOf y]? = some (srvAt row w y) := by
  have h1 := posZ_115 hw
  have hp := ordL_perm hw
  have hi := List.idxOf_lt_length_of_mem ((perm_mem hp).mpr h)
  rw [perm_len hp] at hi
  unfold srvAt
  rw [List.getD_eq_getElem?_getD, List.getElem?_eq_getElem (by omega)]; rfl
theorem meet_cnt {row : List Int} {w : List Nat} {d : Bool × Nat × Nat} (hw : HistW row.length w) (h1 : d.2.1 < row.length) (h2 : d.2.2 < row.length) : meetB row w d = (decide (cntAt w d.2.1 ≤ (ordL row w).idxOf d.2.2) == d.1) := by
  unfold meetB
  congr 1
  rw [Bool.eq_iff_iff, decide_eq_true_eq, decide_eq_true_eq]
  exact pos_lt (arr_get hw h1) (srv_get hw h2)
theorem cnt_at {n : Nat} {w : List Nat} {x : Nat} (hw : HistW n w) (h : x < n) : atI ((countsL w).map pN) (x : Int) = some (pN (cntAt w x)) := atI_map (by
  rw [countsL_posZ, List.getElem?_map, arr_get hw h]; rfl)
@[simp] def S_unmet : SV := fun ds Q E => ∃ (row : List Int) (p dp : PyData), ds = [.py (tI row), .py p, .py dp] ∧ row ≠ [] ∧ row.length ≤ 40 ∧ isSm p ∧ isLen dp ∧
  (∀ w L, p = .str (mkS w) → HistW row.length w → dp = .tuple (L.map demD) → L.length ≤ 30 → (∀ d ∈ L, d.2.1 < row.length ∧ d.2.2 < row.length) → Q (.py (tN (unmetL row w L)))) ∧
  (isHist row.length p = false → E ⟨"NoHistory", []⟩) ∧ (isHist row.length p = true → ∀ a b, demErr row.length dp = .tuple [a, b] → E ⟨"BadDemand", [("index", a)]⟩)
/-! ### the law's own look at words -/
@[simp] def S_g_is_history : SV := fun ds Q _ => ∃ (row : List Int) (p : PyData), ds = [.py (tI row), .py p] ∧ row.length ≤ 1000 ∧ isSm p ∧ Q (.py (.bool (isHist row.length p)))
end LawP
set_option Elab.async false
set_option linter.all false
set_option maxRecDepth 100000
set_option maxHeartbeats 4000000
namespace LawP
open PySem PySem.Spec PyProof.Rows L2 VL
def t_g_counts : VS :=
  (sRet (vCal gTuple (vCons (vLc [1, 2] (iEn (vCons (vBor 0) vNil)) (tgTup 2 (tgCons (tgName 1) (tgCons (tgName 2) tgNil))) (vTst (vBin gEq (vBor 2) (vC (.py (.str "a"))))) (vMth isCt gCount (vSl gSl (vBor 0) oNo (oAt (vBor 1))) (vCons (vC (.py (.str "s"))) vNil))) vNil)))
def t_g_all (S_g_counts : SV) (S_g_events : SV) : VS :=
  (sSeq (sSet 1 (vLst (vCons (vC (.py (.str ""))) vNil)))
  (sSeq (sFor (iR1 (vCons (vBin gMulA (vC (.py (.int 2))) (vCal gLen (vCons (vBor 0) vNil))) vNil)) (tgName 2)
  (sSeq (sSetN 3 (vLst vNil))
  (sSeq (sFor (iS (vVar 1)) (tgName 4)
  (sSeq (sIf (vTst (vBin gLt (vMth isCt gCount (vBor 4) (vCons (vC (.py (.str "a"))) vNil)) (vCal gLen (vCons (vBor 0) vNil))))
  (sMut 3 gApp (vCons (vBin gAdd (vBor 4) (vC (.py (.str "a")))) vNil))
  sNext)
  (sIf (vTst (vBin gLt (vMth isCt gCount (vBor 4) (vCons (vC (.py (.str "s"))) vNil)) (vMth isCt gCount (vBor 4) (vCons (vC (.py (.str "a"))) vNil))))
  (sMut 3 gApp (vCons (vBin gAdd (vBor 4) (vC (.py (.str "s")))) vNil))
  sNext)))
  (sFrz 3 (sSet 1 (vVar 3))))))
  (sRet (vCal gSortedD (vCons (vLc [4] (iS (vBor 1)) (tgName 4) wYes (vLst (vCons (vCall S_g_counts (vCons (vVar 4) vNil)) (vCons (vVar 4) (vCons (vCall S_g_events (vCons (vVar 0) (vCons (vVar 4) vNil))) vNil))))) vNil)))))
def t_own_demands (S_mates : SV) : VS :=
  (sSeq (sSetN 2 (vLc [3] (iR1 (vCons (vCal gLen (vCons (vBor 0) vNil)) vNil)) (tgName 3) wYes (vTup (vCons (vC (.py (.str "soon"))) (vCons (vVar 3) (vCons (vVar 3) vNil))))))
  (sSeq (sFor (iEn (vCons (vCall S_mates (vCons (vVar 0) vNil)) vNil)) (tgTup 2 (tgCons (tgName 3) (tgCons (tgName 4) tgNil)))
  (sSeq (sSet 5 (vCal gAll (vCons (vLc [7] (iR1 (vCons (vBor 3) vNil)) (tgName 7) wYes (vBin gLt (vBin gIx (vBor 1) (vBor 7)) (vBin gIx (vBor 1) (vBor 3)))) vNil)))
  (sSeq (sSet 6 (vAnd (vBin (gIsN true) (vBor 4) (vC (.py .none))) (vBin gEq (vBin gIx (vBor 1) (vBor 3)) (vBin gAdd (vBin gIx (vBor 1) (vBor 4)) (vC (.py (.int 1)))))))
  (sSeq (sIf (wAnd (wNot (vTst (vBor 6))) (wNot (vTst (vBor 5))))
  (sRet (vC (.py .none)))
  sNext)
  (sSeq (sIf (wAnd (vTst (vBor 6)) (wNot (vTst (vBor 5))))
  (sMut 2 gApp (vCons (vTup (vCons (vC (.py (.str "soon"))) (vCons (vVar 3) (vCons (vVar 4) vNil)))) vNil))
  sNext)
  (sIf (wAnd (vTst (vBin (gIsN true) (vBor 4) (vC (.py .none)))) (wNot (vTst (vBor 6))))
  (sMut 2 gApp (vCons (vTup (vCons (vC (.py (.str "late"))) (vCons (vVar 3) (vCons (vVar 4) vNil)))) vNil))
  sNext))))))
  (sRet (vCal gSortedD (vCons (vBor 2) vNil)))))
def t_Stairs_is_open : VS :=
  (sRet (vCal gAll (vCons (vLc [1, 2] (iZ2 (vCons (vUn (gFld "Stairs" "low") (vBor 0)) (vCons (vUn (gFld "Stairs" "high") (vBor 0)) vNil))) (tgTup 2 (tgCons (tgName 1) (tgCons (tgName 2) tgNil))) wYes (vBin gLe (vBor 1) (vBor 2))) vNil)))
def t_order_demands (S_places_of : SV) (S_own_demands : SV) (S_Stairs_is_open : SV) (S_Stairs_init : SI) : VS :=
  (sSeq (sSet 2 (vCall S_places_of (vCons (vVar 0) (vCons (vVar 1) vNil))))
  (sSeq (sSet 3 (vCall S_own_demands (vCons (vVar 0) (vCons (vVar 2) vNil))))
  (sSeq (sIf (wOr (vTst (vBin (gIsN false) (vBor 3) (vC (.py .none)))) (wNot (vTst (vMeth "Stairs" "is_open" S_Stairs_is_open (vMake "Stairs" S_Stairs_init (vCons (vVar 2) (vCons (vVar 3) vNil))) vNil))))
  (sRaise0 "Impossible")
  sNext)
  (sRet (vCal gTuple (vCons (vBor 3) vNil))))))
def t_g_stairs : VS :=
  (sSeq (sPar [3, 4] (mCons false (vLc [7] (iR1 (vCons (vCal gLen (vCons (vBor 0) vNil)) vNil)) (tgName 7) wYes (vMth isSq gIndex (vBor 1) (vCons (vBor 7) vNil))) (mCons false (vCal gLen (vCons (vBor 0) vNil)) mNil)))
  (sSeq (sPar [5, 6] (mCons true (vBin gRepL (vLst (vCons (vC (.py (.int 0))) vNil)) (vBor 4)) (mCons true (vLc [7] (iR1 (vCons (vBor 4) vNil)) (tgName 7) wYes (vBin gIx (vBor 3) (vBor 7))) mNil)))
  (sSeq (sFor (iR1 (vCons (vBor 4) vNil)) (tgName 7)
  (sSeq (sSet 8 (vLc [15] (iR1 (vCons (vBor 7) vNil)) (tgName 15) (vTst (vBin gEq (vBin gIx (vBor 0) (vBor 15)) (vBin gIx (vBor 0) (vBor 7)))) (vVar 15)))
  (sSeq (sSet 9 (vBin gEq (vLc [15] (iR1 (vCons (vBor 7) vNil)) (tgName 15) (vTst (vBin gGt (vBin gIx (vBor 3) (vBor 15)) (vBin gIx (vBor 3) (vBor 7)))) (vVar 15)) (vLst vNil)))
  (sSeq (sSet 10 (vAnd (vBin gNe (vBor 8) (vLst vNil)) (vBin gEq (vBin gIx (vBor 3) (vBor 7)) (vBin gAdd (vBin gIx (vBor 3) (vBin gIx (vBor 8) (vUn gNeg (vC (.py (.int 1)))))) (vC (.py (.int 1)))))))
  (sSeq (sIf (wAnd (wNot (vTst (vBor 9))) (wNot (vTst (vBor 10))))
  (sRet (vC (.py .none)))
  sNext)
  (sSeq (sIf (wAnd (vTst (vBor 10)) (wNot (vTst (vBor 9))))
  (sStoL 6 (vVar 7) (vCal gMin (vCons (vBin gIx (vBor 6) (vBor 7)) (vCons (vBin gIx (vBor 3) (vBin gIx (vBor 8) (vUn gNeg (vC (.py (.int 1)))))) vNil))))
  sNext)
  (sIf (wAnd (vTst (vBin gNe (vBor 8) (vLst vNil))) (wNot (vTst (vBor 10))))
  (sStoL 5 (vVar 7) (vBin gAdd (vBin gIx (vBor 3) (vBin gIx (vBor 8) (vUn gNeg (vC (.py (.int 1)))))) (vC (.py (.int 1)))))
  sNext)))))))
  (sSeq (sFor (iS (vVar 2)) (tgTup 3 (tgCons (tgName 11) (tgCons (tgName 7) (tgCons (tgName 12) tgNil))))
  (sIf (vTst (vBin gEq (vBor 11) (vC (.py (.str "late")))))
  (sStoL 5 (vVar 7) (vCal gMax (vCons (vBin gIx (vBor 5) (vBor 7)) (vCons (vBin gAdd (vBin gIx (vBor 3) (vBor 12)) (vC (.py (.int 1)))) vNil))))
  (sStoL 6 (vVar 7) (vCal gMin (vCons (vBin gIx (vBor 6) (vBor 7)) (vCons (vBin gIx (vBor 3) (vBor 12)) vNil))))))
  (sSeq (sSet 13 (vLc [7] (iR1 (vCons (vBor 4) vNil)) (tgName 7) wYes (vCal gMax (vCons (vSl gSl (vBor 5) oNo (oAt (vBin gAdd (vBor 7) (vC (.py (.int 1)))))) vNil))))
  (sSeq (sSet 14 (vLc [7] (iR1 (vCons (vBor 4) vNil)) (tgName 7) wYes (vCal gMin (vCons (vSl gSl (vBor 6) (oAt (vBor 7)) oNo) vNil))))
  (sSeq (sIf (vTst (vBin gNe (vLc [7] (iR1 (vCons (vBor 4) vNil)) (tgName 7) (vTst (vBin gGt (vBin gIx (vBor 13) (vBor 7)) (vBin gIx (vBor 14) (vBor 7)))) (vVar 7)) (vLst vNil)))
  (sRet (vC (.py .none)))
  sNext)
  (sRet (vLst (vCons (vVar 13) (vCons (vVar 14) vNil)))))))))))
end LawP
set_option Elab.async false
set_option linter.all false
set_option maxRecDepth 100000
set_option maxHeartbeats 4000000
namespace LawP
open PySem VL
/-! ### stairs of demands: a demand is (soon, person, other) -/
abbrev Dem := Bool × Nat × Nat
/-- counts meet a demand -/
def metB (ms : List Nat) (c : Nat → Nat) (d : Dem) : Bool := decide (c d.2.1 ≤ ms.idxOf d.2.2) == d.1
def loL (ms : List Nat) : List Dem → Nat → Nat
  | [], _ => 0
  | d :: L, k => if d.1 = false ∧ d.2.1 ≤ k then max (ms.idxOf d.2.2 + 1) (loL ms L k) else loL ms L k
def hiL (ms : List Nat) : List Dem → Nat → Nat
  | [], k => k
  | d :: L, k => if d.1 = true ∧ k ≤ d.2.1 then min (ms.idxOf d.2.2) (hiL ms L k) else hiL ms L k
theorem loL_le {ms : List Nat} {x k : Nat} : ∀ {L : List Dem}, loL ms L k ≤ x ↔ ∀ d ∈ L, d.1 = false → d.2.1 ≤ k → ms.idxOf d.2.2 + 1 ≤ x
  | [] => by simp [loL]
  | d :: L => by
    unfold loL
    by_cases h : d.1 = false ∧ d.2.1 ≤ k
    · rw [if_pos h, Nat.max_le, loL_le (L := L), List.forall_mem_cons]
      exact ⟨fun ⟨a, b⟩ => ⟨fun _ _ => a, b⟩, fun ⟨a, b⟩ => ⟨a h.1 h.2, b⟩⟩
    · rw [if_neg h, loL_le (L := L), List.forall_mem_cons]
      exact ⟨fun b => ⟨fun a1 a2 => absurd ⟨a1, a2⟩ h, b⟩, fun ⟨_, b⟩ => b⟩
theorem le_hiL {ms : List Nat} {x k : Nat} : ∀ {L : List Dem}, x ≤ hiL ms L k ↔ x ≤ k ∧ ∀ d ∈ L, d.1 = true → k ≤ d.2.1 → x ≤ ms.idxOf d.2.2
  | [] => by simp [hiL]
  | d :: L => by
    unfold hiL
    by_cases h : d.1 = true ∧ k ≤ d.2.1
    · rw [if_pos h, Nat.le_min, le_hiL (L := L), List.forall_mem_cons]
      exact ⟨fun ⟨a, b, c⟩ => ⟨b, fun _ _ => a, c⟩, fun ⟨b, a, c⟩ => ⟨a h.1 h.2, b, c⟩⟩
    · rw [if_neg h, le_hiL (L := L), List.forall_mem_cons]
      exact ⟨fun ⟨b, c⟩ => ⟨b, fun a1 a2 => absurd ⟨a1, a2⟩ h, c⟩, fun ⟨b, _, c⟩ => ⟨b, c⟩⟩
theorem loL_up {ms : List Nat} {L : List Dem} {i j : Nat} (h : i ≤ j) : loL ms L i ≤ loL ms L j :=
  loL_le.mpr fun d hd h1 h2 => loL_le.mp (Nat.le_refl (loL ms L j)) d hd h1 (Nat.le_trans h2 h)
theorem hiL_self {ms : List Nat} {L : List Dem} {k : Nat} : hiL ms L k ≤ k := (le_hiL.mp (Nat.le_refl (hiL ms L k))).1
theorem hiL_up {ms : List Nat} {L : List Dem} {i j : Nat} (h : i ≤ j) : hiL ms L i ≤ hiL ms L j :=
  le_hiL.mpr ⟨Nat.le_trans hiL_self h, fun d hd h1 h2 => (le_hiL.mp (Nat.le_refl (hiL ms L i))).2 d hd h1 (Nat.le_trans h h2)⟩
theorem lo_of {ms : List Nat} {L : List Dem} {d : Dem} (hd : d ∈ L) (h : d.1 = false) {k : Nat} (hk : d.2.1 ≤ k) : ms.idxOf d.2.2 + 1 ≤ loL ms L k := loL_le.mp (Nat.le_refl _) d hd h hk
theorem hi_of {ms : List Nat} {L : List Dem} {d : Dem} (hd : d ∈ L) (h : d.1 = true) {k : Nat} (hk : k ≤ d.2.1) : hiL ms L k ≤ ms.idxOf d.2.2 := (le_hiL.mp (Nat.le_refl _)).2 d hd h hk
/-- the same demands, the same stairs -/
theorem loL_eq {ms : List Nat} {A B : List Dem} (h : ∀ d, d ∈ A ↔ d ∈ B) (k : Nat) : loL ms A k = loL ms B k :=
  Nat.le_antisymm (loL_le.mpr fun d hd h1 h2 => lo_of ((h d).mp hd) h1 h2) (loL_le.mpr fun d hd h1 h2 => lo_of ((h d).mpr hd) h1 h2)
theorem hiL_eq {ms : List Nat} {A B : List Dem} (h : ∀ d, d ∈ A ↔ d ∈ B) (k : Nat) : hiL ms A k = hiL ms B k :=
  Nat.le_antisymm (le_hiL.mpr ⟨hiL_self, fun d hd h1 h2 => hi_of ((h d).mpr hd) h1 h2⟩) (le_hiL.mpr ⟨hiL_self, fun d hd h1 h2 => hi_of ((h d).mp hd) h1 h2⟩)
/-- some counts meet all -/
def OpenD (ms : List Nat) (L : List Dem) (n : Nat) : Prop := ∀ k, k < n → loL ms L k ≤ hiL ms L k
instance {ms : List Nat} {L : List Dem} {n : Nat} : Decidable (OpenD ms L n) := by unfold OpenD; infer_instance
theorem metB_soon {ms : List Nat} {c : Nat → Nat} {d : Dem} (h : d.1 = true) : metB ms c d = true ↔ c d.2.1 ≤ ms.idxOf d.2.2 := by
  unfold metB; rw [h]; simp
theorem metB_late {ms : List Nat} {c : Nat → Nat} {d : Dem} (h : d.1 = false) : metB ms c d = true ↔ ms.idxOf d.2.2 + 1 ≤ c d.2.1 := by
  unfold metB; rw [h]; simp; omega
theorem met_iff {ms : List Nat} {L : List Dem} {n : Nat} {c : Nat → Nat} (hL : ∀ d ∈ L, d.2.1 < n ∧ d.2.2 < n) (up : ∀ i j, i ≤ j → j < n → c i ≤ c j) (le : ∀ i, i < n → c i ≤ i) :
    (∀ d ∈ L, metB ms c d = true) ↔ ∀ k, k < n → loL ms L k ≤ c k ∧ c k ≤ hiL ms L k := by
  constructor
  · intro h k hk
    refine ⟨loL_le.mpr fun d hd h1 h2 => ?_, le_hiL.mpr ⟨le k hk, fun d hd h1 h2 => ?_⟩⟩
    · exact Nat.le_trans ((metB_late h1).mp (h d hd)) (up _ _ h2 hk)
    · exact Nat.le_trans (up _ _ h2 (hL d hd).1) ((metB_soon h1).mp (h d hd))
  · intro h d hd
    obtain ⟨h1, h2⟩ := h _ (hL d hd).1
    cases e : d.1 with
    | true => exact (metB_soon e).mpr (Nat.le_trans h2 (hi_of hd e (Nat.le_refl _)))
    | false => exact (metB_late e).mpr (Nat.le_trans (lo_of hd e (Nat.le_refl _)) h1)
theorem met_cnt {ms : List Nat} {L : List Dem} {n : Nat} {cs : List Nat} (hL : ∀ d ∈ L, d.2.1 < n ∧ d.2.2 < n) (hc : CntOk n cs) :
    (∀ d ∈ L, metB ms (fnOf cs) d = true) ↔ ∀ k, k < n → loL ms L k ≤ fnOf cs k ∧ fnOf cs k ≤ hiL ms L k := met_iff hL hc.up hc.le
def csLoL (ms : List Nat) (L : List Dem) (n : Nat) : List Nat := (List.range n).map (loL ms L)
def csHiL (ms : List Nat) (L : List Dem) (n : Nat) : List Nat := (List.range n).map (hiL ms L)
theorem csHiL_ok {ms : List Nat} {L : List Dem} {n : Nat} : CntOk n (csHiL ms L n) := by
  refine ⟨by simp [csHiL], fun i j h hj => ?_, fun i hi => ?_⟩
  · unfold csHiL; rw [fnOf_map _ hj, fnOf_map _ (by omega)]; exact hiL_up h
  · unfold csHiL; rw [fnOf_map _ hi]; exact hiL_self
theorem csLoL_ok {ms : List Nat} {L : List Dem} {n : Nat} (o : OpenD ms L n) : CntOk n (csLoL ms L n) := by
  refine ⟨by simp [csLoL], fun i j h hj => ?_, fun i hi => ?_⟩
  · unfold csLoL; rw [fnOf_map _ hj, fnOf_map _ (by omega)]; exact loL_up h
  · unfold csLoL; rw [fnOf_map _ hi]; exact Nat.le_trans (o i hi) hiL_self
theorem csLoL_met {ms : List Nat} {L : List Dem} {n : Nat} (hL : ∀ d ∈ L, d.2.1 < n ∧ d.2.2 < n) (o : OpenD ms L n) : ∀ d ∈ L, metB ms (fnOf (csLoL ms L n)) d = true :=
  (met_cnt hL (csLoL_ok o)).mpr fun k hk => by unfold csLoL; rw [fnOf_map _ hk]; exact ⟨Nat.le_refl _, o k hk⟩
theorem csHiL_met {ms : List Nat} {L : List Dem} {n : Nat} (hL : ∀ d ∈ L, d.2.1 < n ∧ d.2.2 < n) (o : OpenD ms L n) : ∀ d ∈ L, metB ms (fnOf (csHiL ms L n)) d = true :=
  (met_cnt hL csHiL_ok).mpr fun k hk => by unfold csHiL; rw [fnOf_map _ hk]; exact ⟨o k hk, Nat.le_refl _⟩
theorem open_iff {ms : List Nat} {L : List Dem} {n : Nat} (hL : ∀ d ∈ L, d.2.1 < n ∧ d.2.2 < n) : OpenD ms L n ↔ ∃ cs, CntOk n cs ∧ ∀ d ∈ L, metB ms (fnOf cs) d = true :=
  ⟨fun o => ⟨_, csLoL_ok o, csLoL_met hL o⟩, fun ⟨_, hc, h⟩ k hk => by have := (met_cnt hL hc).mp h k hk; omega⟩
/-! ### the demands that an order makes -/
def ownK (row : List Int) (ms : List Nat) (k : Nat) : List Dem := match mateOf row k with
  | none => []
  | some m => (if (nearB row ms k && !leadB ms k) = true then [(true, k, m)] else []) ++ (if nearB row ms k = true then [] else [(false, k, m)])
def ownL (row : List Int) (ms : List Nat) : List Dem := ((List.range row.length).map fun k => (true, k, k)) ++ (List.range row.length).flatMap (ownK row ms)
/-- everybody is near or leads -/
def KdOk (row : List Int) (ms : List Nat) : Prop := ∀ k, k < row.length → nearB row ms k = true ∨ leadB ms k = true
instance {row : List Int} {ms : List Nat} : Decidable (KdOk row ms) := by unfold KdOk; infer_instance
theorem mate_lt {row : List Int} {k m : Nat} (h : mateOf row k = some m) : m < k := by
  unfold mateOf at h
  obtain ⟨g, _, h2⟩ := Option.bind_eq_some_iff.mp h
  exact (lastIn_some h2).1
theorem ownK_mem {row : List Int} {ms : List Nat} {k : Nat} {d : Dem} : d ∈ ownK row ms k ↔ ∃ m, mateOf row k = some m ∧ ((d = (true, k, m) ∧ nearB row ms k = true ∧ leadB ms k = false) ∨ (d = (false, k, m) ∧ nearB row ms k = false)) := by
  unfold ownK
  cases e : mateOf row k with
  | none => simp
  | some m =>
    cases e1 : nearB row ms k <;> cases e2 : leadB ms k <;> simp
theorem ownL_mem {row : List Int} {ms : List Nat} {d : Dem} : d ∈ ownL row ms ↔ (∃ k, k < row.length ∧ d = (true, k, k)) ∨ ∃ k, k < row.length ∧ d ∈ ownK row ms k := by
  unfold ownL
  simp only [List.mem_append, List.mem_map, List.mem_range, List.mem_flatMap]
  constructor
  · rintro (⟨k, h, rfl⟩ | h)
    · exact .inl ⟨k, h, rfl⟩
    · exact .inr h
  · rintro (⟨k, h, rfl⟩ | h)
    · exact .inl ⟨k, h, rfl⟩
    · exact .inr h
theorem ownL_ok {row : List Int} {ms : List Nat} : ∀ d ∈ ownL row ms, d.2.1 < row.length ∧ d.2.2 < row.length := by
  intro d hd
  rcases ownL_mem.mp hd with ⟨k, hk, rfl⟩ | ⟨k, hk, hd⟩
  · exact ⟨hk, hk⟩
  · obtain ⟨m, hm, h | h⟩ := ownK_mem.mp hd
    · rw [h.1]; exact ⟨hk, Nat.lt_trans (mate_lt hm) hk⟩
    · rw [h.1]; exact ⟨hk, Nat.lt_trans (mate_lt hm) hk⟩
theorem fits_own {row : List Int} {ms : List Nat} {c : Nat → Nat} (kd : KdOk row ms) : Fits row ms c ↔ ∀ d ∈ ownL row ms, metB ms c d = true := by
  constructor
  · intro f d hd
    rcases ownL_mem.mp hd with ⟨k, hk, rfl⟩ | ⟨k, hk, hd⟩
    · exact (metB_soon rfl).mpr (Nat.le_trans (f.hi k hk) (high_le row ms k))
    · obtain ⟨m, hm, ⟨rfl, h1, h2⟩ | ⟨rfl, h1⟩⟩ := ownK_mem.mp hd
      · refine (metB_soon rfl).mpr (Nat.le_trans (f.hi k hk) ?_)
        unfold highD
        rw [hm, h1, h2]
        exact Nat.le_refl _
      · refine (metB_late rfl).mpr (Nat.le_trans ?_ (f.lo k hk))
        have : leadB ms k = true := (kd k hk).resolve_left (by rw [h1]; exact Bool.false_ne_true)
        unfold lowD
        rw [hm, h1, this]
        exact Nat.le_refl _
  · intro h
    refine ⟨kd, fun k hk => ?_, fun k hk => ?_⟩
    · unfold lowD
      cases hm : mateOf row k with
      | none => exact Nat.zero_le _
      | some m =>
        cases h1 : nearB row ms k with
        | true => simp
        | false =>
          have := (metB_late rfl).mp (h (false, k, m) (ownL_mem.mpr (.inr ⟨k, hk, ownK_mem.mpr ⟨m, hm, .inr ⟨rfl, h1⟩⟩⟩)))
          dsimp only at this ⊢
          split <;> omega
    · have h0 := (metB_soon rfl).mp (h (true, k, k) (ownL_mem.mpr (.inl ⟨k, hk, rfl⟩)))
      unfold highD
      cases hm : mateOf row k with
      | none => exact h0
      | some m =>
        cases h1 : nearB row ms k with
        | false => exact h0
        | true =>
          cases h2 : leadB ms k with
          | true => exact h0
          | false =>
            exact (metB_soon rfl).mp (h (true, k, m) (ownL_mem.mpr (.inr ⟨k, hk, ownK_mem.mpr ⟨m, hm, .inl ⟨rfl, h1, h2⟩⟩⟩)))
theorem poss_own {row : List Int} {ms : List Nat} (hp : ms.Perm (List.range row.length)) : Poss row ms ↔ KdOk row ms ∧ OpenD ms (ownL row ms) row.length := by
  constructor
  · intro h
    have kd : KdOk row ms := wrongL_nil.mp h.1
    refine ⟨kd, (open_iff ownL_ok).mpr ⟨_, csLo_ok hp h, (fits_own kd).mp (csLo_fits h)⟩⟩
  · rintro ⟨kd, o⟩
    obtain ⟨cs, hc, h⟩ := (open_iff ownL_ok).mp o
    exact Fits.poss ((fits_own kd).mpr h) hc.up
/-- the histories with an order that meet demands -/
theorem ordL_met {row : List Int} {ms w : List Nat} {L : List Dem} (hp : ms.Perm (List.range row.length)) (po : Poss row ms) (hw : HistW row.length w) :
    (ordL row w = ms ∧ ∀ d ∈ L, metB ms (fnOf (cntsL 0 w)) d = true) ↔ ∀ d ∈ ownL row ms ++ L, metB ms (fnOf (cntsL 0 w)) d = true := by
  rw [ord_iff hp hw, fits_own ((poss_own hp).mp po).1, List.forall_mem_append]
/-- the stairs of the order alone -/
theorem lo_own {row : List Int} {ms : List Nat} (kd : KdOk row ms) {k : Nat} (hk : k < row.length) : loL ms (ownL row ms) k = loS row ms k := by
  apply Nat.le_antisymm
  · refine loL_le.mpr fun d hd h1 h2 => ?_
    rcases ownL_mem.mp hd with ⟨j, hj, rfl⟩ | ⟨j, hj, hd⟩
    · cases h1
    · obtain ⟨m, hm, ⟨rfl, _⟩ | ⟨rfl, h3⟩⟩ := ownK_mem.mp hd
      · cases h1
      · refine Nat.le_trans ?_ (loS_ge (row := row) (ms := ms) h2)
        have : leadB ms j = true := (kd j hj).resolve_left (by rw [h3]; exact Bool.false_ne_true)
        show _ ≤ lowD row ms j
        unfold lowD
        rw [hm, h3, this]
        exact Nat.le_refl _
  · obtain ⟨j, hj, e⟩ := loS_mem row ms k
    rw [e]
    unfold lowD
    cases hm : mateOf row j with
    | none => exact Nat.zero_le _
    | some m =>
      cases h1 : nearB row ms j with
      | true => simp
      | false =>
        dsimp only
        split
        · exact lo_of (ownL_mem.mpr (.inr ⟨j, by omega, ownK_mem.mpr ⟨m, hm, .inr ⟨rfl, h1⟩⟩⟩)) rfl hj
        · exact Nat.zero_le _
theorem hi_own {row : List Int} {ms : List Nat} (hp : ms.Perm (List.range row.length)) {k : Nat} (hk : k < row.length) : hiL ms (ownL row ms) k = hiS row ms k := by
  apply Nat.le_antisymm
  · obtain ⟨j, hj, hj2, e⟩ := hiS_mem (row := row) (ms := ms) hk
    rw [e]
    unfold highD
    have h0 : hiL ms (ownL row ms) k ≤ ms.idxOf j := hi_of (d := (true, j, j)) (ownL_mem.mpr (.inl ⟨j, hj2, rfl⟩)) rfl hj
    cases hm : mateOf row j with
    | none => exact h0
    | some m =>
      dsimp only
      split
      · rename_i c
        simp only [Bool.and_eq_true, Bool.not_eq_true'] at c
        exact hi_of (d := (true, j, m)) (ownL_mem.mpr (.inr ⟨j, hj2, ownK_mem.mpr ⟨m, hm, .inl ⟨rfl, c.1, c.2⟩⟩⟩)) rfl hj
      · exact h0
  · refine le_hiL.mpr ⟨hiS_le_self hp hk, fun d hd h1 h2 => ?_⟩
    rcases ownL_mem.mp hd with ⟨j, hj, rfl⟩ | ⟨j, hj, hd⟩
    · exact Nat.le_trans (hiS_le h2 hj) (high_le row ms j)
    · obtain ⟨m, hm, ⟨rfl, h3, h4⟩ | ⟨rfl, h3⟩⟩ := ownK_mem.mp hd
      · refine Nat.le_trans (hiS_le h2 hj) ?_
        show highD row ms j ≤ _
        unfold highD
        rw [hm, h3, h4]
        exact Nat.le_refl _
      · cases h1
end LawP
set_option Elab.async false
set_option linter.all false
set_option maxRecDepth 100000
set_option maxHeartbeats 4000000
namespace LawP
open PySem PySem.Spec PyProof.Rows L2 VL
/-! ### what Stairs computes -/
def flipD (d : Dem) : Dm := (!d.1, d.2)
theorem set_getD {ls : List Int} {i k : Nat} {v : Int} (h : i < ls.length) : (ls.set i v).getD k 0 = if i = k then v else ls.getD k 0 := by
  rw [List.getD_eq_getElem?_getD, List.getElem?_set]
  by_cases e : i = k
  · subst e; simp [h]
  · simp [e]
theorem max_le' {a b x : Int} : (if a > b then a else b) ≤ x ↔ a ≤ x ∧ b ≤ x := by
  by_cases h : a > b
  · rw [if_pos h]; omega
  · rw [if_neg h]; omega
theorem le_min' {a b x : Int} : x ≤ (if a < b then a else b) ↔ x ≤ a ∧ x ≤ b := by
  by_cases h : a < b
  · rw [if_pos h]; omega
  · rw [if_neg h]; omega
theorem fold_low {ps : List Int} {n k : Nat} {x : Int} : ∀ {dm : List Dm} {s : List Int × List Int}, s.1.length = n → s.2.length = n → (∀ d ∈ dm, d.2.1 < n ∧ d.2.2 < n) → k < n →
    ((dm.foldl (stepD ps) s).1.getD k 0 ≤ x ↔ s.1.getD k 0 ≤ x ∧ ∀ d ∈ dm, d.1 = true → d.2.1 = k → ps.getD d.2.2 0 + 1 ≤ x)
  | [], s, _, _, _, _ => by simp
  | d :: dm, s, h1, h2, hd, hk => by
    obtain ⟨hd1, hd2⟩ := List.forall_mem_cons.mp hd
    have e := stepD_len (ps := ps) (s := s) (d := d)
    rw [List.foldl_cons, fold_low (e.1.trans h1) (e.2.trans h2) hd2 hk, List.forall_mem_cons, ← and_assoc]
    refine and_congr_left fun _ => ?_
    unfold stepD
    by_cases c : d.1 = true
    · rw [if_pos c, set_getD (by omega)]
      by_cases g : d.2.1 = k
      · subst g
        rw [if_pos rfl, max_le']
        exact ⟨fun ⟨a, b⟩ => ⟨b, fun _ _ => a⟩, fun ⟨a, b⟩ => ⟨b c rfl, a⟩⟩
      · rw [if_neg g]
        exact ⟨fun a => ⟨a, fun _ f => absurd f g⟩, fun a => a.1⟩
    · rw [if_neg c]
      exact ⟨fun a => ⟨a, fun f => absurd f c⟩, fun a => a.1⟩
theorem fold_high {ps : List Int} {n k : Nat} {x : Int} : ∀ {dm : List Dm} {s : List Int × List Int}, s.1.length = n → s.2.length = n → (∀ d ∈ dm, d.2.1 < n ∧ d.2.2 < n) → k < n →
    (x ≤ (dm.foldl (stepD ps) s).2.getD k 0 ↔ x ≤ s.2.getD k 0 ∧ ∀ d ∈ dm, d.1 = false → d.2.1 = k → x ≤ ps.getD d.2.2 0)
  | [], s, _, _, _, _ => by simp
  | d :: dm, s, h1, h2, hd, hk => by
    obtain ⟨hd1, hd2⟩ := List.forall_mem_cons.mp hd
    have e := stepD_len (ps := ps) (s := s) (d := d)
    rw [List.foldl_cons, fold_high (e.1.trans h1) (e.2.trans h2) hd2 hk, List.forall_mem_cons, ← and_assoc]
    refine and_congr_left fun _ => ?_
    unfold stepD
    by_cases c : d.1 = true
    · rw [if_pos c]
      exact ⟨fun a => ⟨a, fun f => by rw [c] at f; cases f⟩, fun a => a.1⟩
    · rw [if_neg c, set_getD (by omega)]
      by_cases g : d.2.1 = k
      · subst g
        rw [if_pos rfl, le_min']
        exact ⟨fun ⟨a, b⟩ => ⟨b, fun _ _ => a⟩, fun ⟨a, b⟩ => ⟨b (by simpa using c) rfl, a⟩⟩
      · rw [if_neg g]
        exact ⟨fun a => ⟨a, fun _ f => absurd f g⟩, fun a => a.1⟩
theorem upL_le {ls : List Int} {x : Int} {k : Nat} (hk : k < ls.length) : ∀ {m : Nat}, m < ls.length → ((upL ls m).getD k 0 ≤ x ↔ if k ≤ m then ∀ j, j ≤ k → ls.getD j 0 ≤ x else ls.getD k 0 ≤ x)
  | 0, _ => by
    show ls.getD k 0 ≤ x ↔ _
    by_cases e : k ≤ 0
    · rw [if_pos e]
      obtain rfl : k = 0 := by omega
      exact ⟨fun h j hj => by obtain rfl : j = 0 := by omega
                              exact h, fun h => h 0 (Nat.le_refl _)⟩
    · rw [if_neg e]
  | m + 1, hm => by
    rw [upL_succ]
    unfold stepU
    rw [set_getD (by rw [upL_len]; exact hm)]
    by_cases e : m + 1 = k
    · subst e
      rw [if_pos rfl, if_pos (Nat.le_refl _), max_le', upL_le (by omega) (by omega), upL_le hk (by omega), if_pos (Nat.le_refl _), if_neg (by omega)]
      constructor
      · rintro ⟨h1, h2⟩ j hj
        by_cases c : j = m + 1
        · rw [c]; exact h2
        · exact h1 j (by omega)
      · exact fun h => ⟨fun j hj => h j (by omega), h _ (Nat.le_refl _)⟩
    · rw [if_neg e, upL_le hk (by omega)]
      by_cases c : k ≤ m
      · rw [if_pos c, if_pos (by omega)]
      · rw [if_neg c, if_neg (by omega)]
theorem le_dnL {n : Nat} {ls : List Int} {x : Int} {k : Nat} (hn : ls.length = n) (hk : k < n) : ∀ {m : Nat}, m < n → (x ≤ (dnL n ls m).getD k 0 ↔ if n - 1 - m ≤ k then ∀ j, k ≤ j → j < n → x ≤ ls.getD j 0 else x ≤ ls.getD k 0)
  | 0, _ => by
    show x ≤ ls.getD k 0 ↔ _
    by_cases e : n - 1 - 0 ≤ k
    · rw [if_pos e]
      exact ⟨fun h j h1 h2 => by obtain rfl : j = k := by omega
                                 exact h, fun h => h k (Nat.le_refl _) hk⟩
    · rw [if_neg e]
  | m + 1, hm => by
    rw [dnL_succ]
    unfold stepN
    rw [set_getD (by rw [dnL_len]; omega)]
    by_cases e : n - 2 - m = k
    · rw [if_pos e, le_min', le_dnL hn (by omega) (by omega), le_dnL hn (by omega) (by omega), if_pos (show n - 1 - m ≤ n - 2 - m + 1 by omega), if_neg (show ¬ n - 1 - m ≤ n - 2 - m by omega), if_pos (show n - 1 - (m + 1) ≤ k by omega)]
      constructor
      · rintro ⟨h1, h2⟩ j h3 h4
        by_cases c : j = n - 2 - m
        · rw [c]; exact h2
        · exact h1 j (by omega) h4
      · exact fun h => ⟨fun j h1 h2 => h j (by omega) h2, h _ (by omega) (by omega)⟩
    · rw [if_neg e, le_dnL hn hk (by omega)]
      by_cases c : n - 1 - m ≤ k
      · rw [if_pos c, if_pos (by omega)]
      · rw [if_neg c, if_neg (by omega)]
def psI (ms : List Nat) : List Int := (placesL ms).map fun (k : Nat) => (k : Int)
theorem psI_len {ms : List Nat} : (psI ms).length = ms.length := by simp [psI, placesL]
theorem psI_at {ms : List Nat} {k : Nat} (h : k < ms.length) : (psI ms).getD k 0 = (ms.idxOf k : Nat) := by
  unfold psI placesL
  rw [List.getD_eq_getElem?_getD, List.map_map, List.getElem?_map, List.getElem?_range h]
  rfl
theorem psI_pN {ms : List Nat} : (psI ms).map PyData.int = (placesL ms).map pN := by unfold psI; rw [List.map_map]; rfl
theorem lowC_eq {ms : List Nat} {L : List Dem} (hL : ∀ d ∈ L, d.2.1 < ms.length ∧ d.2.2 < ms.length) (h0 : 0 < ms.length) : lowC (psI ms) (L.map flipD) = (csLoL ms L ms.length).map fun (k : Nat) => (k : Int) := by
  have hlen : (lowC (psI ms) (L.map flipD)).length = ms.length := by unfold lowC; rw [upL_len, dmS_len.1, psI_len]
  apply List.ext_getElem
  · rw [hlen]; simp [csLoL]
  · intro k h1 h2
    have hk : k < ms.length := by omega
    have e : ∀ x : Int, (lowC (psI ms) (L.map flipD)).getD k 0 ≤ x ↔ ((loL ms L k : Nat) : Int) ≤ x := by
      intro x
      unfold lowC
      rw [upL_le (by rw [dmS_len.1, psI_len]; exact hk) (by rw [dmS_len.1, psI_len]; omega), if_pos (by rw [psI_len]; omega)]
      have q : ∀ j, j ≤ k → ((dmS (psI ms) (L.map flipD)).1.getD j 0 ≤ x ↔ 0 ≤ x ∧ ∀ d ∈ L, d.1 = false → d.2.1 = j → ((ms.idxOf d.2.2 : Nat) : Int) + 1 ≤ x) := by
        intro j hj
        unfold dmS
        rw [fold_low (n := ms.length) (by rw [List.length_replicate, psI_len]) (by simp [psI_len]) (fun d hd => by
          obtain ⟨d', hd', rfl⟩ := List.mem_map.mp hd
          exact hL d' hd') (by omega)]
        refine and_congr ?_ ?_
        · rw [List.getD_eq_getElem?_getD, List.getElem?_replicate]; split <;> simp
        · rw [List.forall_mem_map]
          refine forall_congr' fun d => forall_congr' fun hd => ?_
          unfold flipD
          dsimp only
          rw [psI_at (hL d hd).2]
          cases d.1 <;> simp
      constructor
      · intro h
        have h00 := ((q 0 (Nat.zero_le _)).mp (h 0 (Nat.zero_le _))).1
        have : loL ms L k ≤ x.toNat := loL_le.mpr fun d hd e1 e2 => by
          have := ((q _ e2).mp (h _ e2)).2 d hd e1 rfl
          omega
        omega
      · intro h j hj
        refine (q j hj).mpr ⟨by omega, fun d hd e1 e2 => ?_⟩
        have := lo_of hd e1 (k := k) (ms := ms) (by omega)
        omega
    have a1 := (e _).mp (Int.le_refl _)
    have a2 := (e _).mpr (Int.le_refl _)
    have a3 := Int.le_antisymm a2 a1
    rw [List.getD_eq_getElem?_getD, List.getElem?_eq_getElem h1] at a3
    simp only [csLoL, List.getElem_map, List.getElem_range]
    exact a3
theorem highC_eq {ms : List Nat} {L : List Dem} (hL : ∀ d ∈ L, d.2.1 < ms.length ∧ d.2.2 < ms.length) (h0 : 0 < ms.length) : highC (psI ms) (L.map flipD) = (csHiL ms L ms.length).map fun (k : Nat) => (k : Int) := by
  have hlen : (highC (psI ms) (L.map flipD)).length = ms.length := by unfold highC; rw [dnL_len, dmS_len.2, psI_len]
  apply List.ext_getElem
  · rw [hlen]; simp [csHiL]
  · intro k h1 h2
    have hk : k < ms.length := by omega
    have e : ∀ x : Nat, (x : Int) ≤ (highC (psI ms) (L.map flipD)).getD k 0 ↔ x ≤ hiL ms L k := by
      intro x
      unfold highC
      rw [le_dnL (by rw [dmS_len.2]) (by rw [psI_len]; exact hk) (by rw [psI_len]; omega), if_pos (by rw [psI_len]; omega)]
      have q : ∀ j, j < ms.length → ((x : Int) ≤ (dmS (psI ms) (L.map flipD)).2.getD j 0 ↔ x ≤ j ∧ ∀ d ∈ L, d.1 = true → d.2.1 = j → x ≤ ms.idxOf d.2.2) := by
        intro j hj
        unfold dmS
        rw [fold_high (n := ms.length) (by rw [List.length_replicate, psI_len]) (by simp [psI_len]) (fun d hd => by
          obtain ⟨d', hd', rfl⟩ := List.mem_map.mp hd
          exact hL d' hd') hj]
        refine and_congr ?_ ?_
        · rw [List.getD_eq_getElem?_getD, List.getElem?_map, List.getElem?_range (by rw [psI_len]; exact hj)]
          show (x : Int) ≤ (j : Int) ↔ _
          omega
        · rw [List.forall_mem_map]
          refine forall_congr' fun d => forall_congr' fun hd => ?_
          unfold flipD
          dsimp only
          rw [psI_at (hL d hd).2]
          cases d.1 <;> simp
      rw [le_hiL]
      constructor
      · intro h
        refine ⟨((q k hk).mp (h k (Nat.le_refl _) (by rw [psI_len]; exact hk))).1, fun d hd e1 e2 => ?_⟩
        exact ((q _ (hL d hd).1).mp (h _ e2 (by rw [psI_len]; exact (hL d hd).1))).2 d hd e1 rfl
      · rintro ⟨h1, h2⟩ j h3 h4
        rw [psI_len] at h4
        refine (q j h4).mpr ⟨by omega, fun d hd e1 e2 => h2 d hd e1 (by omega)⟩
    have p0 : (0 : Int) ≤ (highC (psI ms) (L.map flipD)).getD k 0 := (e 0).mpr (Nat.zero_le _)
    have a1 := (e ((highC (psI ms) (L.map flipD)).getD k 0).toNat).mp (by omega)
    have a2 := (e _).mpr (Nat.le_refl _)
    have a3 : (highC (psI ms) (L.map flipD)).getD k 0 = (hiL ms L k : Nat) := by omega
    rw [List.getD_eq_getElem?_getD, List.getElem?_eq_getElem h1] at a3
    simp only [csHiL, List.getElem_map, List.getElem_range]
    exact a3
end LawP
set_option Elab.async false
set_option linter.all false
set_option maxRecDepth 100000
set_option maxHeartbeats 4000000
namespace LawP
open PySem PySem.Spec PyProof.Rows L2 VL
end LawP
set_option Elab.async false
set_option linter.all false
set_option maxRecDepth 100000
set_option maxHeartbeats 4000000
namespace LawP
open PySem PySem.Spec PyProof.Rows L2 VL
/-! ### stairs -/
theorem maxL_to (f : Nat → Nat) (k : Nat) : maxL ((List.range (k + 1)).map fun j => (f j : Int)) = (maxTo f k : Nat) := by
  have hne : (List.range (k + 1)).map (fun j => (f j : Int)) ≠ [] := by simp
  obtain ⟨h1, h2⟩ := maxL_spec _ hne
  obtain ⟨j, hj, e⟩ := List.mem_map.mp h1
  have hj := List.mem_range.mp hj
  obtain ⟨i, hi, e2⟩ := maxTo_mem f k
  have a := maxTo_ge f (k := k) (j := j) (by omega)
  have b := h2 (f i : Int) (List.mem_map.mpr ⟨i, List.mem_range.mpr (by omega), rfl⟩)
  omega
theorem minL_from (f : Nat → Nat) (k d : Nat) : minL ((List.range (d + 1)).map fun j => (f (k + j) : Int)) = (minFrom f k d : Nat) := by
  have hne : (List.range (d + 1)).map (fun j => (f (k + j) : Int)) ≠ [] := by simp
  obtain ⟨h1, h2⟩ := minL_spec _ hne
  obtain ⟨j, hj, e⟩ := List.mem_map.mp h1
  have hj := List.mem_range.mp hj
  obtain ⟨i, hi, e2⟩ := minFrom_mem f k d
  have a := minFrom_le f k (d := d) (j := j) (by omega)
  have b := h2 (f (k + i) : Int) (List.mem_map.mpr ⟨i, List.mem_range.mpr (by omega), rfl⟩)
  omega
@[simp] def S_stairs : SV := fun ds Q E => ∃ (row : List Int) (p : PyData), ds = [.py (tI row), .py p] ∧ row ≠ [] ∧ row.length ≤ 40 ∧ (∀ ms, p = tN ms → ms.Perm (List.range row.length) → Q (.py (.tuple [tN (csLo row ms), tN (csHi row ms)]))) ∧ (ordB row.length p = false → E ⟨"NoOrder", []⟩)
theorem take_range (n k : Nat) (h : k ≤ n) : (List.range n).take k = List.range k := by
  rw [List.take_range]; congr 1; omega
theorem drop_map_range {α : Type} (f : Nat → α) (n k : Nat) : ((List.range n).map f).drop k = (List.range (n - k)).map fun j => f (k + j) := by
  refine List.ext_getElem? fun i => ?_
  rw [List.getElem?_drop, List.getElem?_map, List.getElem?_map]
  by_cases h : i < n - k
  · rw [List.getElem?_range h, List.getElem?_range (by omega)]; rfl
  · rw [List.getElem?_eq_none (by simp; omega), List.getElem?_eq_none (by simp; omega)]; rfl
/-! ### the word of some counts -/
@[simp] def S_o_word_with : SV := fun ds Q _ => ∃ cs : List Nat, ds = [.py (tN cs)] ∧ cs.length ≤ 1000 ∧ (∀ c ∈ cs, c ≤ 1000) ∧ Q (.py (.str (mkS (wordC cs.length 0 cs))))
/-! ### verdict -/
def verdP (row : List Int) (ms : List Nat) : PyData := match wrongL row ms with
  | k :: _ => .tuple [.str "place", pN k]
  | [] => match clashL row ms with
    | c :: _ => .tuple [.str "clash", pN c.1, pN c.2]
    | [] => .tuple [.str "history", .str (mkS (wordC row.length 0 (csHi row ms)))]
@[simp] def S_verdict : SV := fun ds Q E => ∃ (row : List Int) (p : PyData), ds = [.py (tI row), .py p] ∧ row ≠ [] ∧ row.length ≤ 40 ∧ (∀ ms, p = tN ms → ms.Perm (List.range row.length) → Q (.py (verdP row ms))) ∧ (ordB row.length p = false → E ⟨"NoOrder", []⟩)
/-! ### the law's own look at words, all orders -/
@[simp] def S_j_is_word : SV := fun ds Q _ => ∃ (n : Nat) (p : PyData), ds = [.py (.int (n : Nat)), .py p] ∧ n ≤ 1000 ∧ (∀ z, p = .str z → z.length ≤ 100000) ∧ Q (.py (.bool (histB n p)))
@[simp] def S_j_all_orders : SV := fun ds Q _ => ∃ n : Nat, ds = [.py (.int (n : Nat))] ∧ 1 ≤ n ∧ n ≤ 5 ∧ ∀ L : List (List Nat), (∀ ms ∈ L, ms.Perm (List.range n)) → L.length ≤ 7776 → Q (.py (.list (L.map tN)))
end LawP
set_option Elab.async false
set_option linter.all false
set_option maxRecDepth 100000
set_option maxHeartbeats 4000000
namespace LawP
open PySem PySem.Spec PyProof.Rows L2 VL
/-! ### demands in their order -/
def bnD (b : Bool) : Nat := if b = true then 1 else 0
def leD (a b : Dem) : Bool := decide (bnD a.1 < bnD b.1 ∨ (bnD a.1 = bnD b.1 ∧ (a.2.1 < b.2.1 ∨ (a.2.1 = b.2.1 ∧ a.2.2 ≤ b.2.2))))
theorem dataLt_sii {x x' : Str} {y z y' z' : Int} : PySem.W.dataLt (.tuple [.str x, .int y, .int z]) (.tuple [.str x', .int y', .int z']) = if x = x' then decide (y < y' ∨ (y = y' ∧ z < z')) else PySem.W.dataLt (.str x) (.str x') := by
  rw [PySem.W.dataLt_tuple, PySem.W.dataLt_cons (by simp [PySem.W.alike])]
  by_cases h : x = x'
  · subst h
    rw [if_pos (by simp [PyData.eqv]), if_pos rfl, ← PySem.W.dataLt_tuple, PySem.W.dataLt_ii]
  · rw [if_neg (by simpa [PyData.eqv] using h), if_neg h]
theorem dataLe_dem : PySem.W.dataLe false demD = leD := by
  funext a b
  obtain ⟨k, x, y⟩ := a
  obtain ⟨k', x', y'⟩ := b
  show (!PySem.W.dataLt (demD (k', x', y')) (demD (k, x, y))) = _
  unfold demD demT leD bnD pN
  rw [dataLt_sii]
  have e1 : ¬ (Str.ofString "soon") = Str.ofString "late" := by decide +kernel
  have e2 : ¬ (Str.ofString "late") = Str.ofString "soon" := by decide +kernel
  have l1 : PySem.W.dataLt (.str (Str.ofString "soon")) (.str (Str.ofString "late")) = false := by decide +kernel
  have l2 : PySem.W.dataLt (.str (Str.ofString "late")) (.str (Str.ofString "soon")) = true := by decide +kernel
  cases k <;> cases k' <;> simp [e1, e2, l1, l2]
  · rw [Bool.eq_iff_iff]; simp; omega
  · rw [Bool.eq_iff_iff]; simp; omega
def sortDm (L : List Dem) : List Dem := L.mergeSort leD
theorem sortDm_perm (L : List Dem) : (sortDm L).Perm L := List.mergeSort_perm _ _
theorem sortD_dem (L : List Dem) : sortD (L.map demD) = (sortDm L).map demD := by
  unfold sortD sortDm
  refine (List.map_mergeSort (f := demD) (s := PySem.W.dataLe false id) (fun a _ b _ => ?_)).symm
  rw [← dataLe_dem]; rfl
theorem alike_dem : ∀ (L : List Dem), PySem.W.AllAlike (L.map demD) := fun L => PySem.W.AllAlike.of fun a b => by
  simp [demD, demT, pN, PySem.W.alike, PySem.W.alikeAll]
theorem sortable_dem : ∀ (L : List Dem), PySem.W.Sortable (L.map demD) := fun L => PySem.W.Sortable.tuples fun a => ⟨_, _, rfl⟩
theorem depth_dem {L : List Dem} : ∀ d ∈ L.map demD, d.depth ≤ 40 := fun d hd => by
  obtain ⟨x, _, rfl⟩ := List.mem_map.mp hd
  simp [demD, demT, pN, PyData.depth, PyData.depthAll]
theorem gsort_dem {L : List Dem} {Q : D → Prop} (q : Q (.py (.list ((sortDm L).map demD)))) : gSortedD [.py (.list (L.map demD))] Q := by
  refine ⟨alike_dem L, sortable_dem L, depth_dem, ?_⟩
  rw [sortD_dem]; exact q
/-! ### the demands that an order makes -/
def ownS (row : List Int) (ms : List Nat) : List Dem := sortDm (ownL row ms)
theorem ownS_mem {row : List Int} {ms : List Nat} {d : Dem} : d ∈ ownS row ms ↔ d ∈ ownL row ms := (sortDm_perm _).mem_iff
theorem ownS_ok {row : List Int} {ms : List Nat} : ∀ d ∈ ownS row ms, d.2.1 < row.length ∧ d.2.2 < row.length := fun d hd => ownL_ok d (ownS_mem.mp hd)
theorem ownK_len {row : List Int} {ms : List Nat} {k : Nat} : (ownK row ms k).length ≤ 2 := by
  unfold ownK
  cases mateOf row k with
  | none => simp
  | some m => cases nearB row ms k <;> cases leadB ms k <;> simp
theorem flat_len {row : List Int} {ms : List Nat} : ∀ l : List Nat, (l.flatMap (ownK row ms)).length ≤ 2 * l.length
  | [] => by simp
  | k :: l => by
    have h1 := flat_len (row := row) (ms := ms) l
    have h2 := ownK_len (row := row) (ms := ms) (k := k)
    rw [List.flatMap_cons, List.length_append, List.length_cons]; omega
theorem ownS_len {row : List Int} {ms : List Nat} : (ownS row ms).length ≤ 3 * row.length := by
  unfold ownS
  rw [(sortDm_perm _).length_eq]
  unfold ownL
  have := flat_len (row := row) (ms := ms) (List.range row.length)
  simp at this ⊢
  omega
@[simp] def S_own_demands : SV := fun ds Q _ => ∃ (row : List Int) (ms : List Nat), ds = [.py (tI row), .py (.list ((placesL ms).map pN))] ∧ ms.Perm (List.range row.length) ∧ row.length ≤ 1000 ∧ (KdOk row ms → Q (.py (.list ((ownS row ms).map demD)))) ∧ (¬ KdOk row ms → Q (.py .none))
theorem enum_matesG (row : List Int) : enumP ((matesL row).map oN) = (List.range row.length).map fun j => PyData.tuple [pN j, oN (mateOf row j)] := by
  rw [matesL_map]
  apply List.ext_getElem?
  intro i
  by_cases hi : i < row.length
  · rw [List.getElem?_map, List.getElem?_range hi]
    unfold enumP
    rw [List.getElem?_map, List.getElem?_zipIdx, List.getElem?_map, List.getElem?_range hi]
    simp; rfl
  · rw [List.getElem?_eq_none (by rw [enumP_len]; simp; omega), List.getElem?_eq_none (by simp; omega)]
theorem l_own_demands : ∀ ds Q E, S_own_demands ds Q E → t_own_demands S_mates (envOf 8 ds) (fin Q E) := by
  rintro ds Q E ⟨row, ms, rfl, hp, hl, q1, q2⟩
  have lm := perm_len hp
  simp [t_own_demands, -forGo, -lcGo, -S_mates]
  refine ⟨by omega, ?_⟩
  rw [rangeP_eq]
  refine lc_encM (encR 0) (fun k => demD (true, k, k)) (fun i k hk kk k1 => ?_) (by simp; omega) ?_
  · obtain ⟨rfl, hk⟩ := range_get hk
    simp [lcStep, encR]
    exact k1
  refine ⟨row, rfl, hl, ?_⟩
  show forGo _ _ ((enumP ((matesL row).map oN)).map D.py) _ _
  rw [enum_matesG]
  refine for_enc (fun j => PyData.tuple [pN j, oN (mateOf row j)]) (fun i ρ => ∃ (A : List Dem) (s3 s4 s5 s6 : VL.Slot), ρ = [.shr (.py (tI row)), .shr (.py (.list ((placesL ms).map pN))), .own (.py (.list (A.map demD))), s3, s4, s5, s6, .un] ∧ A = ((List.range row.length).map fun k => (true, k, k)) ++ (List.range i).flatMap (ownK row ms) ∧ ∀ j, j < i → nearB row ms j = true ∨ leadB ms j = true) ⟨_, _, _, _, _, by rw [List.map_map]; rfl, by simp, fun j h => absurd h (Nat.not_lt_zero _)⟩ (fun i k ρ hk iv nx ct hn => ?_) (fun ρ iv => ?_)
  · obtain ⟨A, s3, s4, s5, s6, rfl, i0, i1⟩ := iv
    obtain ⟨rfl, hk⟩ := range_get hk
    have hk : k < row.length := by simpa using hk
    have lA : A.length ≤ 3000 := by
      have := flat_len (row := row) (ms := ms) (List.range k)
      rw [i0]; simp at this ⊢; omega
    have snoc : (List.range (k + 1)).flatMap (ownK row ms) = (List.range k).flatMap (ownK row ms) ++ ownK row ms k := by rw [List.range_succ, List.flatMap_append]; simp
    have go : ∀ (B : List Dem) (s3 s4 s5 s6 : VL.Slot), B = A ++ ownK row ms k → (nearB row ms k = true ∨ leadB ms k = true) → nx [.shr (.py (tI row)), .shr (.py (.list ((placesL ms).map pN))), .own (.py (.list (B.map demD))), s3, s4, s5, s6, .un] := fun B s3 s4 s5 s6 eB hd => (hn _ ⟨B, s3, s4, s5, s6, rfl, by rw [eB, i0, snoc, List.append_assoc], fun j hj => by
      by_cases c : j = k
      · rw [c]; exact hd
      · exact i1 j (by omega)⟩).1
    have no : nearB row ms k = false → leadB ms k = false → Q (.py .none) := fun h1 h2 => q2 fun kd => by have := kd k hk; rw [h1, h2] at this; simp at this
    have gk := places_at (ms := ms) (m := k) (by omega)
    simp [-forGo, -lcGo]
    refine ⟨by omega, ?_⟩
    rw [rangeP_eq]
    refine lc_encM (encR 0) (fun j => PyData.bool (decide (ms.idxOf j < ms.idxOf k))) (fun i j hj kk k1 => ?_) (by simp; omega) ?_
    · obtain ⟨rfl, hj⟩ := range_get hj
      have hj : j < k := by simpa using hj
      have gj := places_at (ms := ms) (m := j) (by omega)
      simp [lcStep, encR]
      refine ⟨_, gj, _, gk, ?_⟩
      simpa [pN] using k1
    have eL : ((List.range k).map fun j => decide (ms.idxOf j < ms.idxOf k)).all (fun x => x) = leadB ms k := by
      unfold leadB; rw [List.all_map]; rfl
    simp only [Int.toNat_natCast]
    rw [show ((List.range k).map fun j => PyData.bool (decide (ms.idxOf j < ms.idxOf k))) = ((List.range k).map fun j => decide (ms.idxOf j < ms.idxOf k)).map PyData.bool by rw [List.map_map]; rfl]
    refine ⟨_, allB_mk _, ?_⟩
    rw [eL]
    cases e : mateOf row k with
    | none =>
      have n0 : nearB row ms k = false := by unfold nearB; rw [e]
      have o0 : ownK row ms k = [] := by unfold ownK; rw [e]
      cases c : leadB ms k with
      | false => simp [oN]; exact no n0 c
      | true => simp [oN]; exact go A _ _ _ _ (by rw [o0, List.append_nil]) (.inr c)
    | some m =>
      have hm := mate_lt e
      have gm := places_at (ms := ms) (m := m) (by omega)
      have n0 : nearB row ms k = decide (ms.idxOf k = ms.idxOf m + 1) := by unfold nearB; rw [e]
      have o0 : ownK row ms k = (if (nearB row ms k && !leadB ms k) = true then [(true, k, m)] else []) ++ (if nearB row ms k = true then [] else [(false, k, m)]) := by unfold ownK; rw [e]
      simp [oN, pN]
      refine ⟨_, gk, _, gm, ?_⟩
      simp [pN, beq_succ]
      cases d : nearB row ms k with
      | true =>
        rw [n0] at d
        simp only [decide_eq_true_eq] at d
        rw [n0] at o0
        cases c : leadB ms k with
        | true =>
          simp [d, c] at o0 ⊢
          exact go A _ _ _ _ (by rw [o0, List.append_nil]) (.inr c)
        | false =>
          simp [d, c] at o0 ⊢
          have := go (A ++ [(true, k, m)]) (.shr (.py (.int (k : Int)))) (.shr (.py (.int (m : Int)))) (.shr (.py (.bool false))) (.shr (.py (.bool true))) (by rw [o0]) (.inl (by rw [n0]; simp [d]))
          refine ⟨by omega, ?_⟩
          simpa [demD, demT, pN, d] using this
      | false =>
        rw [n0] at d
        simp only [decide_eq_false_iff_not] at d
        cases c : leadB ms k with
        | false =>
          simp [d, c]
          exact no (by rw [n0]; simp [d]) c
        | true =>
          rw [n0] at o0
          simp [d, c] at o0 ⊢
          have := go (A ++ [(false, k, m)]) (.shr (.py (.int (k : Int)))) (.shr (.py (.int (m : Int)))) (.shr (.py (.bool true))) (.shr (.py (.bool false))) (by rw [o0]) (.inr c)
          refine ⟨by omega, ?_⟩
          simpa [demD, demT, pN, d] using this
  · obtain ⟨A, s3, s4, s5, s6, rfl, i0, i1⟩ := iv
    rw [List.length_range] at i0 i1
    have kd : KdOk row ms := fun k hk => i1 k hk
    refine ⟨_, .inr rfl, ?_⟩
    refine gsort_dem ?_
    have := q1 kd
    rw [i0]
    exact this
/-! ### the stairs -/
def stF (ms : List Nat) (L : List Dem) : List (Str × PyData) := [("places", .list ((placesL ms).map pN)), ("low", .list ((csLoL ms L ms.length).map pN)), ("high", .list ((csHiL ms L ms.length).map pN))]
@[simp] def S_Stairs_init : SI := fun ds Q _ => ∃ (ms : List Nat) (L : List Dem), ds = [.py (.list ((placesL ms).map pN)), .py (.list (L.map demD))] ∧ 0 < ms.length ∧ ms.length ≤ 1000 ∧ (∀ d ∈ L, d.2.1 < ms.length ∧ d.2.2 < ms.length) ∧ Q (stF ms L)
theorem l_Stairs_init : ∀ ds Q E, S_Stairs_init ds Q E → S_stairsR ds Q E := by
  rintro ds Q E ⟨ms, L, rfl, h0, h1, hL, q⟩
  refine ⟨psI ms, L.map flipD, ?_, by rw [psI_len]; exact h0, by rw [psI_len]; exact h1, fun d hd => ?_, ?_⟩
  · rw [psI_pN, List.map_map]
    congr 4
    refine List.map_congr_left fun d _ => ?_
    obtain ⟨k, x, y⟩ := d
    cases k <;> rfl
  · rw [psI_len]
    obtain ⟨d', hd', rfl⟩ := List.mem_map.mp hd
    exact hL d' hd'
  · unfold stairF
    rw [lowC_eq hL h0, highC_eq hL h0, psI_pN, List.map_map, List.map_map]
    exact q
theorem stF_no {ms : List Nat} {L : List Dem} {m : Str} (hm : m ∉ (["places", "low", "high"] : List Str)) : ∀ (x : Str) (y : PyData), (x, y) ∈ stF ms L → ¬ m = x := fun x y h e => by
  simp only [stF, List.mem_cons, Prod.mk.injEq, List.not_mem_nil, or_false] at h
  subst e
  rcases h with ⟨rfl, _⟩ | ⟨rfl, _⟩ | ⟨rfl, _⟩ <;> simp at hm
@[simp] def S_Stairs_is_open : SV := fun ds Q _ => ∃ (ms : List Nat) (L : List Dem) (a : Addr), ds = [.obj a "Stairs" (stF ms L)] ∧ ms.length ≤ 1000 ∧ Q (.py (.bool (decide (OpenD ms L ms.length))))
theorem l_Stairs_is_open : ∀ ds Q E, S_Stairs_is_open ds Q E → t_Stairs_is_open (envOf 3 ds) (fin Q E) := by
  rintro ds Q E ⟨ms, L, a, rfl, hl, q⟩
  simp [t_Stairs_is_open, stF, -lcGo]
  have l1 : (csLoL ms L ms.length) = (List.range ms.length).map (loL ms L) := rfl
  have l2 : (csHiL ms L ms.length) = (List.range ms.length).map (hiL ms L) := rfl
  rw [l1, l2, List.map_map, List.map_map]
  refine ⟨_, rfl, _, rfl, ?_⟩
  show lcGo _ _ _ _ ((zip2P ((List.range ms.length).map (pN ∘ loL ms L)) ((List.range ms.length).map (pN ∘ hiL ms L))).map D.py) [] _
  rw [zip_range2]
  refine lc_encM (fun k => PyData.tuple [pN (loL ms L k), pN (hiL ms L k)]) (fun k => .bool (decide (loL ms L k ≤ hiL ms L k))) (fun i k hk kk k1 => ?_) (by simp; omega) ?_
  · simp [lcStep, pN]
    exact k1
  · rw [show ((List.range ms.length).map fun k => PyData.bool (decide (loL ms L k ≤ hiL ms L k))) = ((List.range ms.length).map fun k => decide (loL ms L k ≤ hiL ms L k)).map PyData.bool by rw [List.map_map]; rfl]
    refine ⟨_, allB_mk _, ?_⟩
    have : ((List.range ms.length).map fun k => decide (loL ms L k ≤ hiL ms L k)).all (fun k => k) = decide (OpenD ms L ms.length) := by
      rw [List.all_map, Bool.eq_iff_iff, List.all_eq_true, decide_eq_true_eq]
      unfold OpenD
      simp
    rw [this]; exact q
@[simp] def S_order_demands : SV := fun ds Q E => ∃ (row : List Int) (p : PyData), ds = [.py (tI row), .py p] ∧ row ≠ [] ∧ row.length ≤ 40 ∧ isLen p ∧ (∀ ms, p = tN ms → ms.Perm (List.range row.length) → (Poss row ms → Q (.py (.tuple ((ownS row ms).map demD)))) ∧ (¬ Poss row ms → E ⟨"Impossible", []⟩)) ∧ (ordB row.length p = false → E ⟨"NoOrder", []⟩)
theorem l_order_demands : ∀ ds Q E, S_order_demands ds Q E → t_order_demands S_places_of S_own_demands S_Stairs_is_open S_Stairs_init (envOf 4 ds) (fin Q E) := by
  rintro ds Q E ⟨row, p, rfl, h0, hl, hlen, q1, q2⟩
  simp [t_order_demands, -S_places_of, -S_own_demands, -S_Stairs_is_open, -S_Stairs_init]
  refine ⟨row, p, rfl, h0, hl, hlen, fun ms e hp => ?_, q2⟩
  subst e
  have lm := perm_len hp
  have hpos := List.length_pos_iff.mpr h0
  obtain ⟨qa, qb⟩ := q1 ms rfl hp
  refine ⟨row, ms, rfl, hp, by omega, fun kd => ?_, fun kd => ?_⟩
  · simp [-S_Stairs_is_open, -S_Stairs_init]
    refine ⟨ms, ownS row ms, rfl, by omega, by omega, by rw [lm]; exact ownS_ok, fun a => ?_⟩
    have op : OpenD ms (ownS row ms) ms.length ↔ Poss row ms := by
      rw [poss_own hp, lm]
      unfold OpenD
      constructor
      · exact fun h => ⟨kd, fun k hk => by have := h k hk; rwa [loL_eq (fun d => ownS_mem), hiL_eq (fun d => ownS_mem)] at this⟩
      · exact fun h k hk => by rw [loL_eq (fun d => ownS_mem), hiL_eq (fun d => ownS_mem)]; exact h.2 k hk
    refine ⟨a, _, ⟨rfl, rfl⟩, stF_no (by decide +kernel), ms, ownS row ms, a, rfl, by omega, ?_⟩
    show if decide (OpenD ms (ownS row ms) ms.length) = true then _ else _
    by_cases po : Poss row ms
    · rw [if_pos (by rw [decide_eq_true_eq]; exact op.mpr po)]
      exact qa po
    · rw [if_neg (by rw [decide_eq_true_eq]; exact fun h => po (op.mp h))]
      exact qb po
  · simp
    exact qb fun po => kd ((poss_own hp).mp po).1
/-! ### the law's own: counts, all histories -/
@[simp] def S_g_counts : SV := fun ds Q _ => ∃ w : List Nat, ds = [.py (.str (mkS w))] ∧ w.length ≤ 100000 ∧ (∀ c ∈ w, c = 97 ∨ c = 115) ∧ Q (.py (tN (cntsL 0 w)))
theorem cnts_goG : ∀ (w pre : List Nat), (∀ c ∈ w, c = 97 ∨ c = 115) → ((w.zipIdx pre.length).filter fun p => p.1 == 97).map (fun p => ((pre ++ w).take p.2).count 115) = cntsL (pre.count 115) w
  | [], _, _ => rfl
  | c :: w, pre, h => by
    have ih := cnts_goG w (pre ++ [c]) fun x hx => h x (List.mem_cons_of_mem _ hx)
    rw [List.length_append, List.length_singleton, List.append_assoc, List.singleton_append] at ih
    rw [List.zipIdx_cons]
    rcases h c List.mem_cons_self with rfl | rfl
    · rw [List.filter_cons_of_pos rfl, List.map_cons, cntsL_a, ih]
      simp
    · rw [List.filter_cons_of_neg (by simp), cntsL_s, ih]
      simp
theorem l_g_counts : ∀ ds Q E, S_g_counts ds Q E → t_g_counts (envOf 3 ds) (fin Q E) := by
  rintro ds Q E ⟨w, rfl, hl, hc, q⟩
  simp [t_g_counts, signsD_mkS, enumP_enc, -lcGo]
  refine lc_encF' (encE encC) (fun p => p.1 == 97) (fun p => pN ((w.take p.2).count 115)) (fun i p hp k h1 h2 => ?_) (by simp; omega) ?_
  · obtain ⟨c, hc, rfl⟩ := zipIdx_at hp
    have ec : cutL w none (some (i : Int)) = w.take i := by rw [cutL_take w (by omega)]; simp
    have hi := (List.getElem?_eq_some_iff.mp hc).1
    simp [lcStep, ec]
    by_cases e : c = 97
    · subst e; simp at h1 ⊢; exact ⟨by omega, h1⟩
    · simp [e] at h2 ⊢; exact h2
  · have e := cnts_goG w [] hc
    simp only [List.nil_append, List.length_nil, List.count_nil] at e
    have := q
    rw [← e] at this
    simpa [Function.comp_def] using this
def allP (row : List Int) (w : List Nat) : PyData := .list [tN (cntsL 0 w), .str (mkS w), evtP row w]
def wE (w : List Nat) : PyData := .str (mkS w)
theorem alike_pN : ∀ xs ys : List Nat, PySem.W.alikeAll (xs.map pN) (ys.map pN) = true
  | [], ys => by cases ys <;> rfl
  | x :: xs, [] => rfl
  | x :: xs, y :: ys => by
    show (PySem.W.alike (pN x) (pN y) && PySem.W.alikeAll (xs.map pN) (ys.map pN)) = true
    rw [alike_pN xs ys]; rfl
theorem sortD_map {α : Type} (f : α → PyData) (L : List α) : ∃ L' : List α, L'.Perm L ∧ sortD (L.map f) = L'.map f ∧ L'.Pairwise fun a b => PySem.W.dataLe false id (f a) (f b) = true := by
  refine ⟨L.mergeSort fun a b => PySem.W.dataLe false id (f a) (f b), List.mergeSort_perm _ _, ?_, ?_⟩
  · unfold sortD
    exact (List.map_mergeSort (f := f) (s := PySem.W.dataLe false id) (fun a _ b _ => rfl)).symm
  · have t := PySem.W.sortLe_total (PyProof.Rows.listOrd PyProof.Rows.itemOrd) false fun (x : α) => PySem.W.keyToks (f x)
    exact List.pairwise_mergeSort (fun a b c => t.trans a b c) (fun a b => by rw [Bool.or_eq_true]; exact t.total a b) L
theorem alike_all (row : List Int) (a b : List Nat) : PySem.W.alike (allP row a) (allP row b) = true := by
  simp [allP, evtP, tN, PySem.W.alike, PySem.W.alikeAll, alike_pN]
theorem gsort_all {row : List Int} {L : List (List Nat)} {Q : D → Prop} (q : Q (.py (.list (sortD (L.map (allP row)))))) : gSortedD [.py (.list (L.map (allP row)))] Q := by
  refine ⟨PySem.W.AllAlike.of fun a b => alike_all row a b, PySem.W.Sortable.others fun a => ⟨by simp [allP], fun xs => by simp [allP]⟩, fun d hd => ?_, q⟩
  obtain ⟨w, _, rfl⟩ := List.mem_map.mp hd
  simp [allP, evtP, tN, PyData.depth, PyData.depthAll, pn_depth]
@[simp] def S_g_all : SV := fun ds Q _ => ∃ row : List Int, ds = [.py (tI row)] ∧ row.length ≤ 8 ∧ ∀ L : List (List Nat), (∀ w, w ∈ L ↔ HistW row.length w) → L.Nodup → L.length ≤ 2 ^ (2 * row.length) → L.Pairwise (fun a b => PySem.W.dataLe false id (allP row a) (allP row b) = true) → Q (.py (.list (L.map (allP row))))
theorem l_g_all : ∀ ds Q E, S_g_all ds Q E → t_g_all S_g_counts S_g_events (envOf 5 ds) (fin Q E) := by
  rintro ds Q E ⟨row, rfl, h1, q⟩
  have e2 : (2 * (row.length : Int)).toNat = 2 * row.length := by omega
  simp [t_g_all, -forGo, -lcGo, -S_g_counts, -S_g_events, e2]
  refine ⟨by simp only [small62]; omega, ?_⟩
  rw [rangeP_eq]
  refine for_enc (encR 0) (fun k ρ => ∃ (L : List (List Nat)) (x y z : VL.Slot), ρ = [.shr (.py (tI row)), .shr (.py (.list (L.map wE))), x, y, z] ∧ (∀ d, z ≠ .own d) ∧ (∀ w, w ∈ L ↔ (okP row.length 0 0 w ∧ w.length = k)) ∧ L.Nodup ∧ L.length ≤ 2 ^ k) ⟨[[]], .un, .un, .un, by simp [wE], ?_, ?_, by simp, by simp⟩ (fun i k ρ hk iv nx ct hn => ?_) (fun ρ iv => ?_)
  · exact fun d => by simp
  · intro w
    constructor
    · intro h
      have : w = [] := by simpa using h
      subst this
      exact ⟨trivial, rfl⟩
    · rintro ⟨_, h⟩
      have : w = [] := List.length_eq_zero_iff.mp h
      subst this
      simp
  · obtain ⟨L, x, y, z, rfl, i0, i1, iN, i2⟩ := iv
    obtain ⟨rfl, hk⟩ := range_get hk
    have i3 : L.length ≤ 2 ^ 16 := Nat.le_trans i2 (Nat.pow_le_pow_right (by omega) (by omega))
    simp [-forGo]
    refine for_enc' wE (fun i ρ => ∃ (M : List (List Nat)) (z : VL.Slot), ρ = [.shr (.py (tI row)), .shr (.py (.list (L.map wE))), .shr (.py (.int (k : Nat))), .own (.py (.list (M.map wE))), z] ∧ (∀ d, z ≠ .own d) ∧ (∀ w, w ∈ M ↔ ∃ v c, v ∈ L.take i ∧ w = v ++ [c] ∧ ((c = 97 ∧ v.count 97 < row.length) ∨ (c = 115 ∧ v.count 115 < v.count 97))) ∧ M.Nodup ∧ M.length ≤ 2 * i) ⟨[], z, rfl, i0, by simp, by simp, by simp⟩ (fun i w ρ hw iv nx2 ct2 hn2 => ?_) (fun ρ iv => ?_)
    · obtain ⟨M, z, rfl, j0, j1, jN, j2⟩ := iv
      have hwL := (i1 w).mp (List.mem_of_getElem? hw)
      have hi : i < L.length := (List.getElem?_eq_some_iff.mp hw).1
      have hcl := okP_le hwL.1
      have hlw : w.length = k := hwL.2
      have hcA := List.count_le_length (a := 97) (l := w)
      have hcS := List.count_le_length (a := 115) (l := w)
      have two : ∀ (w' : List Nat) (c : Nat), w' ∈ L.take (i + 1) ↔ w' ∈ L.take i ∨ w' = w := fun w' c => by
        rw [take_succ_get hw, List.mem_append, List.mem_singleton]
      have nw : w ∉ L.take i := fun hm => by
        rw [← List.take_append_drop i L, drop_at' hw, List.nodup_append] at iN
        exact iN.2.2 w hm w List.mem_cons_self rfl
      have nM : ∀ c, w ++ [c] ∉ M := fun c hm => by
        obtain ⟨v, c', h1, h2, _⟩ := (j1 _).mp hm
        have := List.append_inj_left' h2 rfl
        exact nw (by rw [this]; exact h1)
      have hM : M.length ≤ 2 ^ 17 := by omega
      have nA : ∀ (M' : List (List Nat)) , (∀ w', w' ∈ M' ↔ w' ∈ M ∨ (w' = w ++ [97] ∧ w.count 97 < row.length) ∨ (w' = w ++ [115] ∧ w.count 115 < w.count 97)) → M'.Nodup → M'.length ≤ M.length + 2 → nx2 [.shr (.py (tI row)), .shr (.py (.list (L.map wE))), .shr (.py (.int (k : Nat))), .own (.py (.list (M'.map wE))), .shr (.py (.str (mkS w)))] := fun M' hm hnd hl => by
        refine (hn2 _ ⟨M', _, rfl, fun d => by simp, fun w' => ?_, hnd, by omega⟩).1
        rw [hm, j1]
        constructor
        · rintro (⟨v, c, h1, h2⟩ | ⟨rfl, h2⟩ | ⟨rfl, h2⟩)
          · exact ⟨v, c, (two v c).mpr (.inl h1), h2⟩
          · exact ⟨w, 97, (two w 97).mpr (.inr rfl), rfl, .inl ⟨rfl, h2⟩⟩
          · exact ⟨w, 115, (two w 115).mpr (.inr rfl), rfl, .inr ⟨rfl, h2⟩⟩
        · rintro ⟨v, c, h1, rfl, h2⟩
          rcases (two v c).mp h1 with h1 | rfl
          · exact .inl ⟨v, c, h1, rfl, h2⟩
          · rcases h2 with ⟨rfl, h2⟩ | ⟨rfl, h2⟩
            · exact .inr (.inl ⟨rfl, h2⟩)
            · exact .inr (.inr ⟨rfl, h2⟩)
      have nd1 : ∀ c, (M ++ [w ++ [c]]).Nodup := fun c => by
        rw [List.nodup_append]
        exact ⟨jN, by simp, fun a ha b hb e => by rw [List.mem_singleton] at hb; subst hb; subst e; exact nM c ha⟩
      have nd2 : (M ++ [w ++ [97], w ++ [115]]).Nodup := by
        rw [List.nodup_append]
        refine ⟨jN, by simp, fun a ha b hb e => ?_⟩
        subst e
        simp only [List.mem_cons, List.not_mem_nil, or_false] at hb
        rcases hb with rfl | rfl
        · exact nM _ ha
        · exact nM _ ha
      rw [show wE w = .str (mkS w) from rfl]
      by_cases ca : w.count 97 < row.length
      · by_cases cs : w.count 115 < w.count 97
        · simp [pN, ca, cs]
          refine ⟨by omega, by omega, by omega, by omega, ?_⟩
          have := nA (M ++ [w ++ [97], w ++ [115]]) (fun w' => by simp [ca, cs]) nd2 (by simp)
          simpa [wE] using this
        · simp [pN, ca, cs]
          refine ⟨by omega, by omega, ?_⟩
          have := nA (M ++ [w ++ [97]]) (fun w' => by simp [ca, cs]) (nd1 _) (by simp)
          simpa [wE] using this
      · by_cases cs : w.count 115 < w.count 97
        · simp [pN, ca, cs]
          refine ⟨by omega, by omega, ?_⟩
          have := nA (M ++ [w ++ [115]]) (fun w' => by simp [ca, cs]) (nd1 _) (by simp)
          simpa [wE] using this
        · simp [pN, ca, cs]
          have := nA M (fun w' => by simp [ca, cs]) jN (by simp)
          simpa [wE] using this
    · obtain ⟨M, z, rfl, j0, j1, jN, j2⟩ := iv
      simp
      refine (hn _ ⟨M, .shr (.py (.int (k : Nat))), .shr (.py (.list (M.map wE))), z, rfl, j0, fun w => ?_, jN, by rw [Nat.pow_succ]; omega⟩).1
      · rw [j1, List.take_length]
        constructor
        · rintro ⟨v, c, h1, rfl, h2⟩
          obtain ⟨h3, h4⟩ := (i1 v).mp h1
          exact ⟨okP_snoc.mpr ⟨h3, by simpa using h2⟩, by simp [h4]⟩
        · rintro ⟨h2, h3⟩
          rcases List.eq_nil_or_concat w with rfl | ⟨v, c, rfl⟩
          · simp at h3
          · rw [List.concat_eq_append] at h2 h3 ⊢
            obtain ⟨h4, h5⟩ := okP_snoc.mp h2
            exact ⟨v, c, (i1 v).mpr ⟨h4, by simpa using h3⟩, rfl, by simpa using h5⟩
  · obtain ⟨L, x, y, z, rfl, i0, i1, iN, i2⟩ := iv
    rw [List.length_range] at i1 i2
    have i3 : L.length ≤ 2 ^ 16 := Nat.le_trans i2 (Nat.pow_le_pow_right (by omega) (by omega))
    simp [-lcGo, -S_g_counts, -S_g_events, -gSortedD]
    refine ⟨i0, lc_encM' wE (allP row) (fun i w hw kk k1 => ?_) (by omega) ?_⟩
    · have hH := (hist_okP (n := row.length) (w := w)).mpr ((i1 w).mp (List.mem_of_getElem? hw))
      have hwl := hH.len
      simp [lcStep, wE, -S_g_counts, -S_g_events]
      refine ⟨w, rfl, by omega, goodW_let hH, ?_⟩
      simp [-S_g_events]
      exact ⟨row, w, rfl, by omega, hH, by simp; exact k1⟩
    · obtain ⟨L', hp, e, hs⟩ := sortD_map (allP row) L
      refine gsort_all ?_
      rw [e]
      exact q L' (fun w => by rw [hp.mem_iff, i1, hist_okP]) (hp.nodup_iff.mpr iN) (by rw [hp.length_eq]; exact i2) hs
/-! ### the law's own stairs -/
def upF (f : Nat → Nat) (p x : Nat) (j : Nat) : Nat := if j = p then x else f j
def lowF (ms : List Nat) : List Dem → (Nat → Nat) → (Nat → Nat)
  | [], f => f
  | d :: L, f => lowF ms L (if d.1 = true then f else upF f d.2.1 (max (f d.2.1) (ms.idxOf d.2.2 + 1)))
def highF (ms : List Nat) : List Dem → (Nat → Nat) → (Nat → Nat)
  | [], f => f
  | d :: L, f => highF ms L (if d.1 = true then upF f d.2.1 (min (f d.2.1) (ms.idxOf d.2.2)) else f)
theorem lowF_le {ms : List Nat} {j x : Nat} : ∀ {L : List Dem} {f : Nat → Nat}, lowF ms L f j ≤ x ↔ f j ≤ x ∧ ∀ d ∈ L, d.1 = false → d.2.1 = j → ms.idxOf d.2.2 + 1 ≤ x
  | [], f => by simp [lowF]
  | d :: L, f => by
    unfold lowF
    rw [lowF_le, List.forall_mem_cons, ← and_assoc]
    refine and_congr_left fun _ => ?_
    cases c : d.1 with
    | true => simp
    | false =>
      simp only [Bool.false_eq_true, if_false, upF, forall_const]
      by_cases e : j = d.2.1
      · subst e; rw [if_pos rfl, Nat.max_le]; simp
      · rw [if_neg e]
        exact ⟨fun h => ⟨h, fun z => absurd z.symm e⟩, fun h => h.1⟩
theorem le_highF {ms : List Nat} {j x : Nat} : ∀ {L : List Dem} {f : Nat → Nat}, x ≤ highF ms L f j ↔ x ≤ f j ∧ ∀ d ∈ L, d.1 = true → d.2.1 = j → x ≤ ms.idxOf d.2.2
  | [], f => by simp [highF]
  | d :: L, f => by
    unfold highF
    rw [le_highF, List.forall_mem_cons, ← and_assoc]
    refine and_congr_left fun _ => ?_
    cases c : d.1 with
    | false => simp
    | true =>
      simp only [if_true, upF, forall_const]
      by_cases e : j = d.2.1
      · subst e; rw [if_pos rfl, Nat.le_min]; simp
      · rw [if_neg e]
        exact ⟨fun h => ⟨h, fun z => absurd z.symm e⟩, fun h => h.1⟩
theorem maxTo_le (f : Nat → Nat) {x : Nat} : ∀ {k : Nat}, maxTo f k ≤ x ↔ ∀ j, j ≤ k → f j ≤ x := fun {k} =>
  ⟨fun h j hj => Nat.le_trans (maxTo_ge f hj) h, fun h => by obtain ⟨j, hj, e⟩ := maxTo_mem f k; rw [e]; exact h j hj⟩
theorem le_minFrom (f : Nat → Nat) {x k d : Nat} : x ≤ minFrom f k d ↔ ∀ j, j ≤ d → x ≤ f (k + j) :=
  ⟨fun h j hj => Nat.le_trans h (minFrom_le f k hj), fun h => by obtain ⟨j, hj, e⟩ := minFrom_mem f k d; rw [e]; exact h j hj⟩
theorem lo_all {row : List Int} {ms : List Nat} {L : List Dem} (kd : KdOk row ms) {k : Nat} (hk : k < row.length) : maxTo (lowF ms L (lowD row ms)) k = loL ms (ownL row ms ++ L) k := by
  have h : ∀ x, maxTo (lowF ms L (lowD row ms)) k ≤ x ↔ loL ms (ownL row ms ++ L) k ≤ x := by
    intro x
    rw [maxTo_le, loL_le, List.forall_mem_append, ← loL_le, lo_own kd hk, show loS row ms k = maxTo (lowD row ms) k from rfl, maxTo_le]
    constructor
    · exact fun h => ⟨fun j hj => (lowF_le.mp (h j hj)).1, fun d hd h1 h2 => (lowF_le.mp (h _ h2)).2 d hd h1 rfl⟩
    · exact fun ⟨h1, h2⟩ j hj => lowF_le.mpr ⟨h1 j hj, fun d hd e1 e2 => h2 d hd e1 (by omega)⟩
  exact Nat.le_antisymm ((h _).mpr (Nat.le_refl _)) ((h _).mp (Nat.le_refl _))
theorem hi_all {row : List Int} {ms : List Nat} {L : List Dem} (hp : ms.Perm (List.range row.length)) (hL : ∀ d ∈ L, d.2.1 < row.length ∧ d.2.2 < row.length) {k : Nat} (hk : k < row.length) : minFrom (highF ms L (highD row ms)) k (row.length - 1 - k) = hiL ms (ownL row ms ++ L) k := by
  have h : ∀ x, x ≤ minFrom (highF ms L (highD row ms)) k (row.length - 1 - k) ↔ x ≤ hiL ms (ownL row ms ++ L) k := by
    intro x
    rw [le_minFrom, le_hiL, List.forall_mem_append, ← and_assoc, ← le_hiL, hi_own hp hk, show hiS row ms k = minFrom (highD row ms) k (row.length - 1 - k) from rfl, le_minFrom]
    constructor
    · exact fun h => ⟨fun j hj => (le_highF.mp (h j hj)).1, fun d hd h1 h2 => (le_highF.mp (h (d.2.1 - k) (by have := (hL d hd).1; omega))).2 d hd h1 (by omega)⟩
    · exact fun ⟨h1, h2⟩ j hj => le_highF.mpr ⟨h1 j hj, fun d hd e1 e2 => h2 d hd e1 (by omega)⟩
  exact Nat.le_antisymm ((h _).mp (Nat.le_refl _)) ((h _).mpr (Nat.le_refl _))
theorem lead_filterG {ms : List Nat} {n k : Nat} (hp : ms.Perm (List.range n)) (hk : k < n) : (List.range k).filter (fun j => decide (ms.idxOf k < ms.idxOf j)) = [] ↔ leadB ms k = true := by
  rw [List.filter_eq_nil_iff]
  unfold leadB
  rw [List.all_eq_true]
  refine forall_congr' fun j => forall_congr' fun hj => ?_
  have hj := List.mem_range.mp hj
  have ne : ms.idxOf j ≠ ms.idxOf k := fun e => by
    have h1 := List.getElem_idxOf (List.idxOf_lt_length_of_mem ((perm_mem hp).mpr (show j < n by omega)))
    have h2 := List.getElem_idxOf (List.idxOf_lt_length_of_mem ((perm_mem hp).mpr hk))
    simp only [e] at h1
    have := h1.symm.trans h2
    omega
  simp
  omega
def lst (n : Nat) (f : Nat → Nat) : List PyData := (List.range n).map fun j => pN (f j)
theorem lst_congr {n : Nat} {f g : Nat → Nat} (h : ∀ j, j < n → f j = g j) : lst n f = lst n g := List.map_congr_left fun j hj => by rw [h j (List.mem_range.mp hj)]
theorem lst_len {n : Nat} {f : Nat → Nat} : (lst n f).length = n := by simp [lst]
theorem lst_get {n k : Nat} {f : Nat → Nat} (h : k < n) : (lst n f)[k]? = some (pN (f k)) := by unfold lst; rw [List.getElem?_map, List.getElem?_range h]; rfl
theorem lst_at {n k : Nat} {f : Nat → Nat} (h : k < n) : atI (lst n f) (k : Int) = some (pN (f k)) := atI_nat (lst_get h)
theorem lst_set {n k x : Nat} {f : Nat → Nat} (h : k < n) : setAt (lst n f) (k : Int) (pN x) = some (lst n (upF f k x)) := by
  unfold setAt
  rw [ixN_n (by rw [lst_len]; exact h)]
  refine congrArg some ?_
  apply List.ext_getElem?
  intro i
  rw [List.getElem?_set, lst_len]
  by_cases hi : i < n
  · rw [lst_get hi, lst_get hi]
    unfold upF
    by_cases e : k = i
    · subst e; simp [h]
    · rw [if_neg e, if_neg (fun z => e z.symm)]
  · rw [List.getElem?_eq_none (l := lst n (upF f k x)) (by rw [lst_len]; omega), List.getElem?_eq_none (by rw [lst_len]; omega), if_neg (show ¬ k = i by omega)]
theorem atR {n k : Nat} {f : Nat → Nat} (h : k < n) : atI ((List.range n).map fun j => pN (f j)) (k : Int) = some (pN (f k)) := lst_at h
def stP (row : List Int) (ms : List Nat) (L : List Dem) : PyData := if KdOk row ms ∧ OpenD ms (ownL row ms ++ L) row.length then .list [.list ((csLoL ms (ownL row ms ++ L) row.length).map pN), .list ((csHiL ms (ownL row ms ++ L) row.length).map pN)] else .none
@[simp] def S_g_stairs : SV := fun ds Q _ => ∃ (row : List Int) (ms : List Nat) (L : List Dem), ds = [.py (tI row), .py (tN ms), .py (.tuple (L.map demD))] ∧ row ≠ [] ∧ ms.Perm (List.range row.length) ∧ row.length ≤ 40 ∧ L.length ≤ 100000 ∧ (∀ d ∈ L, d.2.1 < row.length ∧ d.2.2 < row.length) ∧ Q (.py (stP row ms L))
theorem l_g_stairs : ∀ ds Q E, S_g_stairs ds Q E → t_g_stairs (envOf 16 ds) (fin Q E) := by
  rintro ds Q E ⟨row, ms, L, rfl, h0, hp, hl, hlL, hL, q⟩
  have lm := perm_len hp
  have hpos : 0 < row.length := List.length_pos_iff.mpr h0
  have ix : ∀ j, j < row.length → ixOf (ms.map pN) (.int (j : Int)) = some (ms.idxOf j) := fun j hj => pn_ix ((perm_mem hp).mpr hj)
  simp [t_g_stairs, -lcGo, -forGo]
  refine ⟨by omega, ?_⟩
  rw [rangeP_eq]
  refine lc_encM (encR 0) (fun k => pN (ms.idxOf k)) (fun i k hk kk k1 => ?_) (by simp; omega) ?_
  · obtain ⟨rfl, hk⟩ := range_get hk
    have hk : k < row.length := by simpa using hk
    simp [lcStep, encR]
    exact ⟨pn_plain ms, _, ix k hk, k1⟩
  simp [-lcGo, -forGo]
  refine ⟨by omega, by omega, ?_⟩
  refine lc_encM' (encR 0) (fun k => pN (ms.idxOf k)) (fun i k hk kk k1 => ?_) (by simp; omega) ?_
  · obtain ⟨rfl, hk⟩ := range_get hk
    have hk : k < row.length := by simpa using hk
    simp [lcStep, encR]
    exact ⟨_, atR hk, k1⟩
  refine ⟨by omega, ?_⟩
  have e0 : List.replicate row.length (PyData.int 0) = lst row.length fun j => if j < 0 then lowD row ms j else 0 := by
    apply List.ext_getElem <;> simp [lst, pN]
  have e1 : ((List.range row.length).map fun k => pN (ms.idxOf k)) = lst row.length fun j => if j < 0 then highD row ms j else ms.idxOf j := by
    simp [lst]
  rw [e0]
  conv => arg 4; rw [show (Slot.own (D.py (PyData.list ((List.range row.length).map fun k => pN (ms.idxOf k))))) = Slot.own (D.py (PyData.list (lst row.length fun j => if j < 0 then highD row ms j else ms.idxOf j))) by rw [← e1]]
  generalize hP : ((List.range row.length).map fun k => pN (ms.idxOf k)) = P
  refine for_enc' (encR 0) (fun i ρ => ∃ (s7 s8 s9 s10 : VL.Slot), ρ = [.shr (.py (tI row)), .shr (.py (tN ms)), .shr (.py (.tuple (L.map demD))), .shr (.py (.list P)), .shr (.py (.int (row.length : Nat))), .own (.py (.list (lst row.length fun j => if j < i then lowD row ms j else 0))), .own (.py (.list (lst row.length fun j => if j < i then highD row ms j else ms.idxOf j))), s7, s8, s9, s10, .un, .un, .un, .un, .un] ∧ (∀ d, s7 ≠ .own d) ∧ ∀ j, j < i → nearB row ms j = true ∨ leadB ms j = true) ⟨_, _, _, _, rfl, fun d => by simp, fun j h => absurd h (Nat.not_lt_zero _)⟩ (fun i k ρ hk iv nx ct hn => ?_) (fun ρ iv => ?_)
  · obtain ⟨s7, s8, s9, s10, rfl, i0, i1⟩ := iv
    obtain ⟨rfl, hk⟩ := range_get hk
    have hk : k < row.length := by simpa using hk
    have gP : ∀ j, j < row.length → atI P (j : Int) = some (pN (ms.idxOf j)) := fun j hj => by rw [← hP]; exact atR hj
    have gk : row[k]? = some row[k] := List.getElem?_eq_getElem hk
    have go : ∀ (f g : Nat → Nat) (s7 s8 s9 s10 : VL.Slot), (∀ d, s7 ≠ .own d) → (nearB row ms k = true ∨ leadB ms k = true) → (∀ j, j < row.length → f j = if j < k + 1 then lowD row ms j else 0) → (∀ j, j < row.length → g j = if j < k + 1 then highD row ms j else ms.idxOf j) → nx [.shr (.py (tI row)), .shr (.py (tN ms)), .shr (.py (.tuple (L.map demD))), .shr (.py (.list P)), .shr (.py (.int (row.length : Nat))), .own (.py (.list (lst row.length f))), .own (.py (.list (lst row.length g))), s7, s8, s9, s10, .un, .un, .un, .un, .un] := fun f g s7 s8 s9 s10 h7 hd hf hg => by
      rw [lst_congr hf, lst_congr hg]
      exact (hn _ ⟨s7, s8, s9, s10, rfl, h7, fun j hj => by
        by_cases c : j = k
        · rw [c]; exact hd
        · exact i1 j (by omega)⟩).1
    simp [-lcGo, -forGo]
    refine ⟨by omega, ?_⟩
    rw [rangeP_eq]
    refine lc_encF (encR 0) (fun j => row[j]? == row[k]?) (fun j => pN j) (fun i x hx k0 k1 k2 => ?_) (by simp; omega) ?_
    · obtain ⟨rfl, hx⟩ := range_get hx
      have hx : x < k := by simpa using hx
      have gx : row[x]? = some row[x] := List.getElem?_eq_getElem (by omega)
      simp [lcStep, encR]
      refine ⟨_, atI_map gx, _, atI_map gk, ?_⟩
      rw [gx, gk] at k1 k2
      by_cases e : row[x] = row[k]
      · simp [e] at k1 ⊢
        exact k1
      · simp [e] at k2 ⊢
        exact k2
    have em : mateOf row k = ((List.range k).filter fun j => row[j]? == row[k]?).getLast? := by
      unfold mateOf
      rw [gk]
      rfl
    simp only [Int.toNat_natCast]
    generalize hS : (List.range k).filter (fun j => row[j]? == row[k]?) = S at em ⊢
    refine ⟨by omega, ?_⟩
    refine lc_encF (encR 0) (fun j => decide (ms.idxOf k < ms.idxOf j)) (fun j => pN j) (fun i x hx k0 k1 k2 => ?_) (by simp; omega) ?_
    · obtain ⟨rfl, hx⟩ := range_get hx
      have hx : x < k := by simpa using hx
      simp [lcStep, encR]
      refine ⟨_, gP x (by omega), _, gP k hk, ?_⟩
      by_cases e : ms.idxOf k < ms.idxOf x
      · simp [e, pN] at k1 ⊢
        exact k1
      · simp [e, pN] at k2 ⊢
        exact k2
    have lb := lead_filterG hp hk
    simp only [Int.toNat_natCast]
    generalize (List.range k).filter (fun j => decide (ms.idxOf k < ms.idxOf j)) = B at lb ⊢
    have eB : (B.map fun j => pN j).isEmpty = leadB ms k := by
      rw [Bool.eq_iff_iff, ← lb, List.isEmpty_iff, List.map_eq_nil_iff]
    have no : nearB row ms k = false → leadB ms k = false → Q (.py .none) := fun h1 h2 => by
      unfold stP at q
      rw [if_neg (fun h => by have := h.1 k hk; rw [h1, h2] at this; simp at this)] at q
      exact q
    have cut : ∀ (f : Nat → Nat) (g : Nat → Nat) (j : Nat), f k = g k → (if j < k then f j else g j) = (if j < k + 1 then f j else g j) := fun f g j h => by
      by_cases c : j < k
      · rw [if_pos c, if_pos (by omega)]
      · rw [if_neg c]
        by_cases e : j = k
        · subst e; rw [if_pos (by omega), h]
        · rw [if_neg (by omega)]
    have cut2 : ∀ (f : Nat → Nat) (g : Nat → Nat) (j : Nat), upF (fun j => if j < k then f j else g j) k (f k) j = (if j < k + 1 then f j else g j) := fun f g j => by
      unfold upF
      dsimp only
      by_cases e : j = k
      · subst e; rw [if_pos rfl, if_pos (by omega)]
      · rw [if_neg e]
        by_cases c : j < k
        · rw [if_pos c, if_pos (by omega)]
        · rw [if_neg c, if_neg (by omega)]
    rw [eB]
    rcases List.eq_nil_or_concat S with e | ⟨l, m, e⟩
    · subst e
      simp at em
      have n0 : nearB row ms k = false := by unfold nearB; rw [em]
      have l0 : lowD row ms k = 0 := by unfold lowD; rw [em]
      have h0' : highD row ms k = ms.idxOf k := by unfold highD; rw [em]
      cases hb : leadB ms k with
      | false => simp; exact no n0 hb
      | true =>
        simp
        exact go _ _ _ _ _ _ (fun d => by simp) (.inr hb) (fun j _ => cut (lowD row ms) (fun _ => 0) j l0) (fun j _ => cut (highD row ms) (fun j => ms.idxOf j) j h0')
    · subst e
      have hm : m < k := by
        have : m ∈ (List.range k).filter (fun j => row[j]? == row[k]?) := by rw [hS]; simp
        simpa using (List.mem_filter.mp this).1
      simp at em
      have ea : atI ((l.concat m).map fun k => pN k) (-1) = some (pN m) := by
        rw [List.concat_eq_append, List.map_append]
        exact atI_last _ _
      have n0 : nearB row ms k = decide (ms.idxOf k = ms.idxOf m + 1) := by unfold nearB; rw [em]
      have gm := gP m (by omega)
      have gkk := gP k hk
      have hS0 : ((l.concat m).map fun k => pN k).isEmpty = false := by simp
      rw [if_pos (by rw [hS0]; rfl)]
      refine ⟨_, gkk, _, ea, ?_⟩
      show ∃ d, atI P (m : Int) = some d ∧ _
      refine ⟨_, gm, ?_⟩
      simp only [hS0]
      simp [-List.concat_eq_append, pN, beq_succ]
      by_cases c : ms.idxOf k = ms.idxOf m + 1
      · have n1 : nearB row ms k = true := by rw [n0]; simp [c]
        have l0 : lowD row ms k = 0 := by unfold lowD; rw [em, n1]; simp
        cases hb : leadB ms k with
        | true =>
          have h1 : highD row ms k = ms.idxOf k := by unfold highD; rw [em, n1, hb]; simp
          simp [c, -List.concat_eq_append]
          exact go _ _ _ _ _ _ (fun d => by simp) (.inr hb) (fun j _ => cut (lowD row ms) (fun _ => 0) j l0) (fun j _ => cut (highD row ms) (fun j => ms.idxOf j) j h1)
        | false =>
          have h1 : highD row ms k = ms.idxOf m := by unfold highD; rw [em, n1, hb]; simp
          simp [c, -List.concat_eq_append]
          have em2 : PyData.int (min ((ms.idxOf k : Nat) : Int) ((ms.idxOf m : Nat) : Int)) = pN (highD row ms k) := by rw [h1]; unfold pN; congr 1; omega
          refine ⟨_, lst_at hk, _, ea, _, gm, lst row.length (upF (fun j => if j < k then highD row ms j else ms.idxOf j) k (highD row ms k)), ?_, ?_⟩
          · rw [← lst_set hk, ← em2]; simp
          · exact go _ _ _ _ _ _ (fun d => by simp) (.inl n1) (fun j _ => cut (lowD row ms) (fun _ => 0) j l0) (fun j _ => cut2 (highD row ms) (fun j => ms.idxOf j) j)
      · have n1 : nearB row ms k = false := by rw [n0]; simp [c]
        have h1 : highD row ms k = ms.idxOf k := by unfold highD; rw [em, n1]; simp
        cases hb : leadB ms k with
        | false =>
          simp [c, -List.concat_eq_append]
          exact no n1 hb
        | true =>
          have l0 : lowD row ms k = ms.idxOf m + 1 := by unfold lowD; rw [em, n1, hb]; simp
          simp [c, -List.concat_eq_append]
          refine ⟨_, ea, ?_⟩
          refine ⟨_, gm, lst row.length (upF (fun j => if j < k then lowD row ms j else 0) k (lowD row ms k)), ?_, ?_⟩
          · rw [← lst_set hk, l0]; simp [pN]
          · exact go _ _ _ _ _ _ (fun d => by simp) (.inr hb) (fun j _ => cut2 (lowD row ms) (fun _ => 0) j) (fun j _ => cut (highD row ms) (fun j => ms.idxOf j) j h1)
  · obtain ⟨s7, s8, s9, s10, rfl, i0, i1⟩ := iv
    rw [List.length_range] at i1
    have kd : KdOk row ms := fun k hk => i1 k hk
    rw [List.length_range]
    have f0 : (lst row.length fun j => if j < row.length then lowD row ms j else 0) = lst row.length (lowD row ms) := lst_congr fun j hj => if_pos hj
    have f1 : (lst row.length fun j => if j < row.length then highD row ms j else ms.idxOf j) = lst row.length (highD row ms) := lst_congr fun j hj => if_pos hj
    rw [f0, f1]
    simp [-lcGo, -forGo]
    refine for_enc' demD (fun i ρ => ∃ (f g : Nat → Nat) (s7 s8 s9 s10 s11 s12 : VL.Slot), ρ = [.shr (.py (tI row)), .shr (.py (tN ms)), .shr (.py (.tuple (L.map demD))), .shr (.py (.list P)), .shr (.py (.int (row.length : Nat))), .own (.py (.list (lst row.length f))), .own (.py (.list (lst row.length g))), s7, s8, s9, s10, s11, s12, .un, .un, .un] ∧ (∀ d, s7 ≠ .own d) ∧ lowF ms (L.drop i) f = lowF ms L (lowD row ms) ∧ highF ms (L.drop i) g = highF ms L (highD row ms)) ⟨_, _, _, _, _, _, _, _, rfl, i0, rfl, rfl⟩ (fun i d ρ hd iv nx ct hn => ?_) (fun ρ iv => ?_)
    · obtain ⟨f, g, s7, s8, s9, s10, s11, s12, rfl, i0, if0, ig0⟩ := iv
      have gP : ∀ j, j < row.length → atI P (j : Int) = some (pN (ms.idxOf j)) := fun j hj => by rw [← hP]; exact atR hj
      obtain ⟨hd1, hd2⟩ := hL d (List.mem_of_getElem? hd)
      rw [drop_at' hd] at if0 ig0
      obtain ⟨dk, dp, dq⟩ := d
      have go : ∀ (f' g' : Nat → Nat) (s7 s8 s9 s10 s11 s12 : VL.Slot), (∀ d, s7 ≠ .own d) → lowF ms (L.drop (i + 1)) f' = lowF ms L (lowD row ms) → highF ms (L.drop (i + 1)) g' = highF ms L (highD row ms) → nx [.shr (.py (tI row)), .shr (.py (tN ms)), .shr (.py (.tuple (L.map demD))), .shr (.py (.list P)), .shr (.py (.int (row.length : Nat))), .own (.py (.list (lst row.length f'))), .own (.py (.list (lst row.length g'))), s7, s8, s9, s10, s11, s12, .un, .un, .un] := fun f' g' s7 s8 s9 s10 s11 s12 h7 h1 h2 => (hn _ ⟨f', g', s7, s8, s9, s10, s11, s12, rfl, h7, h1, h2⟩).1
      have gq := gP dq hd2
      cases dk with
      | true =>
        have hk0 : (PyData.str (Str.ofString "soon")).eqv (.str (Str.ofString "late")) = false := by decide +kernel
        simp [demD, demT, hk0, pN]
        refine ⟨_, lst_at hd1, _, gq, lst row.length (upF g dp (min (g dp) (ms.idxOf dq))), ?_, ?_⟩
        · rw [← lst_set hd1, show (pN (min (g dp) (ms.idxOf dq))) = PyData.int (min (g dp : Int) (ms.idxOf dq : Int)) by unfold pN; congr 1; omega]
        · have := go f (upF g dp (min (g dp) (ms.idxOf dq))) (.shr (.py (.int (dp : Nat)))) s8 s9 s10 (.shr (.py (.str (Str.ofString "soon")))) (.shr (.py (.int (dq : Nat)))) (fun d => by simp) if0 ig0
          exact this
      | false =>
        simp [demD, demT, pN]
        refine ⟨_, lst_at hd1, _, gq, lst row.length (upF f dp (max (f dp) (ms.idxOf dq + 1))), ?_, ?_⟩
        · rw [← lst_set hd1, show (pN (max (f dp) (ms.idxOf dq + 1))) = PyData.int (max (f dp : Int) ((ms.idxOf dq : Int) + 1)) by unfold pN; congr 1; omega]
        · have := go (upF f dp (max (f dp) (ms.idxOf dq + 1))) g (.shr (.py (.int (dp : Nat)))) s8 s9 s10 (.shr (.py (.str (Str.ofString "late")))) (.shr (.py (.int (dq : Nat)))) (fun d => by simp) if0 ig0
          exact this
    · obtain ⟨f, g, s7, s8, s9, s10, s11, s12, rfl, i0, if0, ig0⟩ := iv
      rw [List.drop_length] at if0 ig0
      have if0 : f = lowF ms L (lowD row ms) := if0
      have ig0 : g = highF ms L (highD row ms) := ig0
      simp [-lcGo, -forGo]
      refine ⟨i0, by omega, ?_⟩
      rw [rangeP_eq]
      refine lc_encM (encR 0) (fun k => pN (maxTo f k)) (fun i k hk kk k1 => ?_) (by simp; omega) ?_
      · obtain ⟨rfl, hk⟩ := range_get hk
        have hk : k < row.length := by simpa using hk
        simp [lcStep]
        have ec : cutL (lst row.length f) none (some ((k : Int) + 1)) = ((List.range (k + 1)).map f).map pN := by
          rw [cutL_take _ (by omega), show ((k : Int) + 1).toNat = k + 1 by omega]
          unfold lst
          rw [← List.map_take, take_range _ _ (by omega), List.map_map]; rfl
        rw [ec]
        refine ⟨_, allI_pN _, by simp, ?_⟩
        rw [List.map_map]
        have := maxL_to f k
        simp only [Function.comp_def]
        rw [this]
        exact k1
      refine ⟨i0, by omega, ?_⟩
      refine lc_encM (encR 0) (fun k => pN (minFrom g k (row.length - 1 - k))) (fun i k hk kk k1 => ?_) (by simp; omega) ?_
      · obtain ⟨rfl, hk⟩ := range_get hk
        have hk : k < row.length := by simpa using hk
        simp [lcStep]
        have ec : cutL (lst row.length g) (some (k : Int)) none = ((List.range (row.length - 1 - k + 1)).map fun j => g (k + j)).map pN := by
          rw [cutL_drop _ (by omega), show (k : Int).toNat = k by omega]
          unfold lst
          rw [drop_map_range, show row.length - 1 - k + 1 = row.length - k by omega, List.map_map]; rfl
        rw [ec]
        refine ⟨_, allI_pN _, by simp, ?_⟩
        rw [List.map_map]
        have := minL_from g k (row.length - 1 - k)
        simp only [Function.comp_def]
        rw [this]
        exact k1
      refine ⟨i0, by omega, ?_⟩
      have c1 : ((List.range row.length).map fun k => pN (maxTo f k)) = lst row.length (loL ms (ownL row ms ++ L)) := by
        rw [if0]; exact lst_congr fun j hj => lo_all kd hj
      have c2 : ((List.range row.length).map fun k => pN (minFrom g k (row.length - 1 - k))) = lst row.length (hiL ms (ownL row ms ++ L)) := by
        rw [ig0]; exact lst_congr fun j hj => hi_all hp hL hj
      rw [c1, c2]
      refine lc_encF (encR 0) (fun k => decide (hiL ms (ownL row ms ++ L) k < loL ms (ownL row ms ++ L) k)) (fun k => pN k) (fun i k hk kk k1 k2 => ?_) (by simp; omega) ?_
      · obtain ⟨rfl, hk⟩ := range_get hk
        have hk : k < row.length := by simpa using hk
        simp [lcStep, encR]
        refine ⟨_, lst_at hk, _, lst_at hk, ?_⟩
        by_cases e : hiL ms (ownL row ms ++ L) k < loL ms (ownL row ms ++ L) k
        · simp [e, pN] at k1 ⊢
          exact k1
        · simp [e, pN] at k2 ⊢
          exact k2
      have op : (List.range row.length).filter (fun k => decide (hiL ms (ownL row ms ++ L) k < loL ms (ownL row ms ++ L) k)) = [] ↔ OpenD ms (ownL row ms ++ L) row.length := by
        rw [List.filter_eq_nil_iff]
        unfold OpenD
        refine forall_congr' fun k => ?_
        rw [List.mem_range]
        refine forall_congr' fun _ => ?_
        simp
      unfold stP at q
      show if (!(List.map (fun k => pN k) ((List.range row.length).filter (fun k => decide (hiL ms (ownL row ms ++ L) k < loL ms (ownL row ms ++ L) k)))).isEmpty) = true then _ else _
      by_cases o : OpenD ms (ownL row ms ++ L) row.length
      · rw [op.mpr o]
        rw [if_pos ⟨kd, o⟩] at q
        simp
        have el : ∀ f : Nat → Nat, lst row.length f = List.map (pN ∘ f) (List.range row.length) := fun f => rfl
        simpa [el, csLoL, csHiL] using q
      · rw [if_neg (fun h => o h.2)] at q
        rw [if_pos]
        · exact q
        · cases hh : (List.range row.length).filter (fun k => decide (hiL ms (ownL row ms ++ L) k < loL ms (ownL row ms ++ L) k)) with
          | nil => exact absurd (op.mp hh) o
          | cons a l => simp
end LawP
set_option Elab.async false
set_option linter.all false
set_option maxRecDepth 100000
set_option maxHeartbeats 4000000
namespace LawP
open PySem PySem.Spec PyProof.Rows L2 VL
def t_g_missed (S_g_meets : SV) : VS :=
  (sRet (vLc [2] (iS (vBor 1)) (tgName 2) (wNot (vTst (vCall S_g_meets (vCons (vVar 0) (vCons (vVar 2) vNil))))) (vVar 2)))
def t_g_meeting (S_g_all : SV) (S_g_missed : SV) : VS :=
  (sSeq (sSetN 3 (vLst vNil))
  (sSeq (sFor (iS (vCall S_g_all (vCons (vVar 0) vNil))) (tgUnl 3 (tgCons (tgName 4) (tgCons (tgName 5) (tgCons (tgName 6) tgNil))))
  (sIf (wAnd (vTst (vBin gEq (vBin gIx (vBor 6) (vC (.py (.int 2)))) (vBor 1))) (vTst (vBin gEq (vCall S_g_missed (vCons (vVar 6) (vCons (vVar 2) vNil))) (vLst vNil))))
  (sMut 3 gApp (vCons (vLst (vCons (vVar 4) (vCons (vVar 5) (vCons (vVar 6) vNil)))) vNil))
  sNext))
  (sFrz 3 (sRet (vVar 3)))))
def t_stairs_for (S_order_demands : SV) (S_require_demands : SV) (S_Stairs_init : SI) (S_places_of : SV) : VS :=
  (sSeq (sSet 3 (vCall S_order_demands (vCons (vVar 0) (vCons (vVar 1) vNil))))
  (sSeq (sExpr (vCall S_require_demands (vCons (vVar 0) (vCons (vVar 2) vNil))))
  (sRet (vMake "Stairs" S_Stairs_init (vCons (vCall S_places_of (vCons (vVar 0) (vCons (vVar 1) vNil))) (vCons (vLst (vStar (vVar 3) (vStar (vVar 2) vNil))) vNil))))))
def t_meeting_word (S_stairs_for : SV) (S_Stairs_is_open : SV) (S_word_with : SV) : VS :=
  (sSeq (sSet 4 (vCall S_stairs_for (vCons (vVar 0) (vCons (vVar 1) (vCons (vVar 2) vNil)))))
  (sSeq (sIf (wNot (vTst (vMeth "Stairs" "is_open" S_Stairs_is_open (vVar 4) vNil)))
  (sRet (vC (.py .none)))
  sNext)
  (sRet (vCall S_word_with (vCons (vIf (vTst (vBor 3)) (vUn (gFld "Stairs" "high") (vBor 4)) (vUn (gFld "Stairs" "low") (vBor 4))) vNil)))))
end LawP
set_option Elab.async false
set_option linter.all false
set_option maxRecDepth 100000
set_option maxHeartbeats 4000000
namespace LawP
open PySem PySem.Spec PyProof.Rows L2 VL
/-! M30: joiners and the order that they make -/
end LawP
set_option Elab.async false
set_option linter.all false
set_option maxRecDepth 100000
set_option maxHeartbeats 4000000
namespace VL
open PySem PySem.Spec PyProof.Rows L2 HT
@[simp] theorem atI_four {α : Type} (x y z u v : α) (xs : List α) : atI (x :: y :: z :: u :: v :: xs) 4 = some v := by have := @atI_nat _ (x :: y :: z :: u :: v :: xs) 4 _ rfl; exact this
@[simp] theorem atI_five {α : Type} (x y z u v w : α) (xs : List α) : atI (x :: y :: z :: u :: v :: w :: xs) 5 = some w := by have := @atI_nat _ (x :: y :: z :: u :: v :: w :: xs) 5 _ rfl; exact this
end VL
namespace LawP
open PySem PySem.Spec PyProof.Rows L2 VL
/-! M31: the order that some joiners make -/
/-- where a person comes in -/
def jPl (row : List Int) (J : Nat → Bool) (T : List Nat) (a : Nat) : Nat := if J a = true then (match mateOf row a with | some m => T.idxOf m + 1 | none => a) else a
def jO (row : List Int) (J : Nat → Bool) : Nat → List Nat
  | 0 => []
  | a + 1 => insAt (jO row J a) (jPl row J (jO row J a) a) a
def jLow (row : List Int) (J : Nat → Bool) (k : Nat) : Nat := match mateOf row k with
  | some m => if J k = true then 0 else (jO row J row.length).idxOf m + 1
  | none => 0
def jHigh (row : List Int) (J : Nat → Bool) (k : Nat) : Nat := if J k = true then (match mateOf row k with | some m => (jO row J row.length).idxOf m | none => (jO row J row.length).idxOf k) else (jO row J row.length).idxOf k
def jStep (row : List Int) (J : Nat → Bool) (k : Nat) : Prop := maxTo (jLow row J) k ≤ minFrom (jHigh row J) k (row.length - 1 - k)
instance {row : List Int} {J : Nat → Bool} {k : Nat} : Decidable (jStep row J k) := inferInstanceAs (Decidable (_ ≤ _))
def jOk (row : List Int) (J : Nat → Bool) : Prop := ∀ k, k < row.length → jStep row J k
instance {row : List Int} {J : Nat → Bool} : Decidable (jOk row J) := inferInstanceAs (Decidable (∀ k, k < row.length → jStep row J k))
theorem bad_wordO {n : Nat} : ∀ {cs : List Nat} {s a : Nat}, a + cs.length = n → (∀ x ∈ cs, s ≤ x) → cs.Pairwise (· ≤ ·) → (∀ i x, cs[i]? = some x → x ≤ a + i) → badC s a (cs.map pN) = none ∧ wordP s a (cs.map pN) = wordC n s cs
  | [], s, a, hn, _, _, _ => by
    simp [badC, wordP, wordC] at hn ⊢
    omega
  | c :: cs, s, a, hn, h1, h2, h3 => by
    have hc := h1 c List.mem_cons_self
    have hca := h3 0 c rfl
    rw [List.pairwise_cons] at h2
    have ih := bad_wordO (n := n) (cs := cs) (s := c) (a := a + 1) (by simp at hn; omega) h2.1 h2.2 (fun i x hx => by have := h3 (i + 1) x (by simpa using hx); omega)
    have e : ((c : Int) - s).toNat = c - s := by omega
    refine ⟨?_, ?_⟩
    · show (if (s : Int) ≤ (c : Int) ∧ (c : Int) ≤ (a : Nat) then badC (c : Nat) (a + 1) (cs.map pN) else some a) = none
      rw [if_pos ⟨by omega, by omega⟩]
      exact ih.1
    · show List.replicate ((c : Int) - s).toNat 115 ++ 97 :: wordP (c : Nat) (a + 1) (cs.map pN) = List.replicate (c - s) 115 ++ 97 :: wordC n c cs
      rw [e, ih.2]
theorem CntOk.badO {n : Nat} {cs : List Nat} (h : CntOk n cs) : badC 0 0 (cs.map pN) = none ∧ wordP 0 0 (cs.map pN) = wordC n 0 cs :=
  bad_wordO (s := 0) (a := 0) (by rw [h.len]; omega) (fun _ _ => Nat.zero_le _) h.pair fun i x hx => by
    have hi : i < cs.length := (List.getElem?_eq_some_iff.mp hx).1
    have := h.le i (by rw [← h.len]; exact hi)
    rw [fnOf_get hi] at this
    rw [List.getElem?_eq_getElem hi] at hx
    cases hx
    omega
end LawP
set_option Elab.async false
set_option linter.all false
set_option maxRecDepth 100000
set_option maxHeartbeats 4000000
namespace LawP
open PySem PySem.Spec PyProof.Rows L2 VL
/-! ### stairs of an order and demands -/
abbrev allD (row : List Int) (ms : List Nat) (L : List Dem) : List Dem := ownS row ms ++ L
theorem allD_mem {row : List Int} {ms : List Nat} {L : List Dem} {d : Dem} : d ∈ allD row ms L ↔ d ∈ ownL row ms ++ L := by
  rw [List.mem_append, List.mem_append, ownS_mem]
theorem allD_ok {row : List Int} {ms : List Nat} {L : List Dem} (hL : ∀ d ∈ L, d.2.1 < row.length ∧ d.2.2 < row.length) : ∀ d ∈ allD row ms L, d.2.1 < row.length ∧ d.2.2 < row.length := fun d hd => by
  rcases List.mem_append.mp hd with h | h
  · exact ownS_ok d h
  · exact hL d h
theorem lo_allD {row : List Int} {ms : List Nat} {L : List Dem} (k : Nat) : loL ms (allD row ms L) k = loL ms (ownL row ms ++ L) k := loL_eq (fun d => allD_mem) k
theorem hi_allD {row : List Int} {ms : List Nat} {L : List Dem} (k : Nat) : hiL ms (allD row ms L) k = hiL ms (ownL row ms ++ L) k := hiL_eq (fun d => allD_mem) k
theorem open_allD {row : List Int} {ms : List Nat} {L : List Dem} {n : Nat} : OpenD ms (allD row ms L) n ↔ OpenD ms (ownL row ms ++ L) n := by
  unfold OpenD; simp only [lo_allD, hi_allD]
theorem demD_inj' {a b : Dem} (h : demD a = demD b) : a = b := by
  obtain ⟨k, x, y⟩ := a
  obtain ⟨k', x', y'⟩ := b
  have e1 : ¬ (Str.ofString "soon") = Str.ofString "late" := by decide +kernel
  have e2 : ¬ (Str.ofString "late") = Str.ofString "soon" := by decide +kernel
  cases k <;> cases k' <;> simp [demD, demT, e1, e2] at h ⊢ <;> exact h
theorem demD_inj {A B : List Dem} (h : A.map demD = B.map demD) : A = B := (map_inj fun a b e => demD_inj' e).mp h
theorem pys_map : ∀ xs : List PyData, pys (xs.map D.py) = some xs
  | [] => rfl
  | x :: xs => by rw [List.map_cons]; show (pys (xs.map D.py)).map _ = _; rw [pys_map xs]; rfl
/-- what stands ahead of all of these defs: an order, then demands -/
@[simp] def ordDem (row : List Int) (p dp : PyData) (E : Er → Prop) (G : List Nat → List Dem → Prop) : Prop :=
  row ≠ [] ∧ row.length ≤ 40 ∧ isLen p ∧ isLen dp ∧
  (∀ ms, p = tN ms → ms.Perm (List.range row.length) → (Poss row ms → (∀ L : List Dem, dp = .tuple (L.map demD) → L.length ≤ 30 → (∀ d ∈ L, d.2.1 < row.length ∧ d.2.2 < row.length) → G ms L) ∧ (∀ a b, demErr row.length dp = .tuple [a, b] → E ⟨"BadDemand", [("index", a)]⟩)) ∧ (¬ Poss row ms → E ⟨"Impossible", []⟩)) ∧
  (ordB row.length p = false → E ⟨"NoOrder", []⟩)
@[simp] def S_stairs_for : SV := fun ds Q E => ∃ (row : List Int) (p dp : PyData), ds = [.py (tI row), .py p, .py dp] ∧ ordDem row p dp E fun ms L => ∀ a, Q (.obj a "Stairs" (stF ms (allD row ms L)))
theorem l_stairs_for : ∀ ds Q E, S_stairs_for ds Q E → t_stairs_for S_order_demands S_require_demands S_Stairs_init S_places_of (envOf 4 ds) (fin Q E) := by
  rintro ds Q E ⟨row, p, dp, rfl, h0, hl, h1, h2, q1, q2⟩
  simp [t_stairs_for, -S_order_demands, -S_require_demands, -S_Stairs_init, -S_places_of]
  refine ⟨row, p, rfl, h0, hl, h1, fun ms e hp => ⟨fun po => ?_, (q1 ms e hp).2⟩, q2⟩
  subst e
  have lm := perm_len hp
  have hpos : 0 < row.length := List.length_pos_iff.mpr h0
  obtain ⟨qa, qb⟩ := (q1 ms rfl hp).1 po
  simp [-S_require_demands, -S_Stairs_init, -S_places_of]
  refine ⟨row, dp, rfl, h2, fun hn => ?_, qb⟩
  obtain ⟨L, rfl, hL1, hL2⟩ := demErr_none hn
  simp [-S_Stairs_init, -S_places_of]
  refine ⟨row, tN ms, rfl, h0, hl, h1, fun ms' e _ => ?_, fun hb => by rw [ordB_tN hp] at hb; cases hb⟩
  obtain rfl := tN_inj.mp e
  have lo := ownS_len (row := row) (ms := ms)
  rw [show List.map (D.py ∘ demD) (ownS row ms) ++ List.map (D.py ∘ demD) L = ((allD row ms L).map demD).map D.py by simp [allD]]
  rw [pys_map]
  refine ⟨?_, ms, allD row ms L, rfl, by omega, by omega, by rw [lm]; exact allD_ok hL2, qa L rfl hL1 hL2⟩
  simp [allD]; omega
/-- where all is well -/
theorem ordDem_of {row : List Int} {ms : List Nat} {L : List Dem} {E : Er → Prop} {G : List Nat → List Dem → Prop} (h0 : row ≠ []) (hl : row.length ≤ 40) (hp : ms.Perm (List.range row.length)) (po : Poss row ms) (hL : L.length ≤ 30) (hv : ∀ d ∈ L, d.2.1 < row.length ∧ d.2.2 < row.length) (g : G ms L) : ordDem row (tN ms) (.tuple (L.map demD)) E G := by
  refine ⟨h0, hl, fun xs e => ?_, fun xs e => ?_, fun ms' e _ => ?_, fun hb => by rw [ordB_tN hp] at hb; cases hb⟩
  · injection e with e; rw [← e]; have := perm_len hp; simp; omega
  · injection e with e; rw [← e]; simp; omega
  · obtain rfl := tN_inj.mp e
    refine ⟨fun _ => ⟨fun L' e' _ _ => ?_, fun a b e' => ?_⟩, fun n => absurd po n⟩
    · injection e' with e'
      rw [← demD_inj e']; exact g
    · rw [demErr_ok hL hv] at e'; cases e'
/-! ### the word of the least, or the greatest counts -/
def mwP (row : List Int) (ms : List Nat) (L : List Dem) (most : Bool) : PyData :=
  if OpenD ms (ownL row ms ++ L) row.length then .str (mkS (wordC row.length 0 (if most = true then csHiL ms (ownL row ms ++ L) row.length else csLoL ms (ownL row ms ++ L) row.length))) else .none
@[simp] def S_meeting_word : SV := fun ds Q E => ∃ (row : List Int) (p dp : PyData) (most : Bool), ds = [.py (tI row), .py p, .py dp, .py (.bool most)] ∧ ordDem row p dp E fun ms L => Q (.py (mwP row ms L most))
theorem l_meeting_word : ∀ ds Q E, S_meeting_word ds Q E → t_meeting_word S_stairs_for S_Stairs_is_open S_word_with (envOf 5 ds) (fin Q E) := by
  rintro ds Q E ⟨row, p, dp, most, rfl, h0, hl, h1, h2, q1, q2⟩
  simp [t_meeting_word, -S_stairs_for, -S_Stairs_is_open, -S_word_with]
  refine ⟨row, p, dp, rfl, h0, hl, h1, h2, fun ms e hp => ⟨fun po => ⟨fun L e2 hL hv a => ?_, ((q1 ms e hp).1 po).2⟩, (q1 ms e hp).2⟩, q2⟩
  have q : Q (.py (mwP row ms L most)) := ((q1 ms e hp).1 po).1 L e2 hL hv
  have lm := perm_len hp
  subst e e2
  refine ⟨a, _, rfl, stF_no (by decide +kernel), ms, allD row ms L, a, rfl, by omega, ?_⟩
  unfold mwP at q
  by_cases o : OpenD ms (ownL row ms ++ L) row.length
  · have o' : OpenD ms (allD row ms L) ms.length := by rw [lm]; exact open_allD.mpr o
    rw [if_pos o] at q
    show if decide (OpenD ms (allD row ms L) ms.length) = true then _ else _
    rw [if_pos (by rw [decide_eq_true_eq]; exact o')]
    cases most with
    | true =>
      have e : csHiL ms (allD row ms L) ms.length = csHiL ms (ownL row ms ++ L) row.length := by
        unfold csHiL; rw [lm]; exact List.map_congr_left fun k _ => hi_allD k
      have ok := csHiL_ok (ms := ms) (L := ownL row ms ++ L) (n := row.length)
      have b := ok.badO
      refine ⟨rfl, _, rfl, ?_⟩
      rw [e]
      refine ⟨by rw [List.length_map, ok.len]; exact hl, b.1, ?_⟩
      rw [b.2]; exact q
    | false =>
      have e : csLoL ms (allD row ms L) ms.length = csLoL ms (ownL row ms ++ L) row.length := by
        unfold csLoL; rw [lm]; exact List.map_congr_left fun k _ => lo_allD k
      have ok := csLoL_ok o
      have b := ok.badO
      refine ⟨rfl, _, rfl, ?_⟩
      rw [e]
      refine ⟨by rw [List.length_map, ok.len]; exact hl, b.1, ?_⟩
      rw [b.2]; exact q
  · have o' : ¬ OpenD ms (allD row ms L) ms.length := by rw [lm]; exact fun h => o (open_allD.mp h)
    rw [if_neg o] at q
    show if decide (OpenD ms (allD row ms L) ms.length) = true then _ else _
    rw [if_neg (by rw [decide_eq_true_eq]; exact o')]
    exact q
/-! ### the law's own -/
@[simp] def S_g_missed : SV := fun ds Q _ => ∃ (row : List Int) (w : List Nat) (L : List Dem), ds = [.py (evtP row w), .py (.tuple (L.map demD))] ∧ HistW row.length w ∧ row.length ≤ 40 ∧ L.length ≤ 100000 ∧ (∀ d ∈ L, d.2.1 < row.length ∧ d.2.2 < row.length) ∧ Q (.py (.list ((L.filter fun d => !meetB row w d).map demD)))
theorem l_g_missed : ∀ ds Q E, S_g_missed ds Q E → t_g_missed S_g_meets (envOf 3 ds) (fin Q E) := by
  rintro ds Q E ⟨row, w, L, rfl, hw, hr, hl, hv, q⟩
  simp [t_g_missed, -lcGo, -S_g_meets]
  refine lc_encF' demD (fun d => !meetB row w d) demD (fun i d hd kk k1 k2 => ?_) (by omega) ?_
  · have := hv d (List.mem_of_getElem? hd)
    simp [lcStep, -S_g_meets]
    refine ⟨row, w, d, rfl, hw, this.1, this.2, ?_⟩
    cases hm : meetB row w d with
    | true => simp; exact k2 (by rw [hm]; rfl)
    | false => simp; exact k1 (by rw [hm]; rfl)
  · exact q
theorem cnts_fn {n : Nat} {w : List Nat} (hw : HistW n w) {x : Nat} (h : x < n) : cntAt w x = fnOf (cntsL 0 w) x := by
  have e := cnt_at hw h
  have hc : countsL w = cntsL 0 w := by
    have := cnts_goG w [] (goodW_let hw)
    simpa [countsL] using this
  rw [hc] at e
  have hl := hw.cnt.len
  have e2 : atI ((cntsL 0 w).map pN) (x : Int) = some (pN (fnOf (cntsL 0 w) x)) := atI_map (by rw [fnOf_get (by omega), List.getElem?_eq_getElem (by omega)])
  rw [e2] at e
  injection e with e
  exact (pN_inj _ _ e).symm
theorem meet_met {row : List Int} {w : List Nat} {d : Dem} (hw : HistW row.length w) (h1 : d.2.1 < row.length) (h2 : d.2.2 < row.length) : meetB row w d = metB (ordL row w) (fnOf (cntsL 0 w)) d := by
  rw [meet_cnt hw h1 h2, cnts_fn hw h1]; rfl
/-- the histories with an order that meet demands -/
structure MeetW (row : List Int) (ms : List Nat) (L : List Dem) (w : List Nat) : Prop where
  h : HistW row.length w
  o : ordL row w = ms
  m : ∀ d ∈ L, metB ms (fnOf (cntsL 0 w)) d = true
@[simp] def S_g_meeting : SV := fun ds Q _ => ∃ (row : List Int) (ms : List Nat) (L : List Dem), ds = [.py (tI row), .py (tN ms), .py (.tuple (L.map demD))] ∧ row.length ≤ 8 ∧ L.length ≤ 100000 ∧ (∀ d ∈ L, d.2.1 < row.length ∧ d.2.2 < row.length) ∧
  ∀ M : List (List Nat), (∀ w, w ∈ M ↔ MeetW row ms L w) → M.Nodup → M.length ≤ 65536 → M.Pairwise (fun a b => PySem.W.dataLe false id (allP row a) (allP row b) = true) → Q (.py (.list (M.map (allP row))))
theorem miss_nil {row : List Int} {w : List Nat} {L : List Dem} (hw : HistW row.length w) (hv : ∀ d ∈ L, d.2.1 < row.length ∧ d.2.2 < row.length) : (L.filter fun d => !meetB row w d) = [] ↔ ∀ d ∈ L, metB (ordL row w) (fnOf (cntsL 0 w)) d = true := by
  rw [List.filter_eq_nil_iff]
  refine forall_congr' fun d => forall_congr' fun hd => ?_
  rw [meet_met hw (hv d hd).1 (hv d hd).2]
  simp
theorem l_g_meeting : ∀ ds Q E, S_g_meeting ds Q E → t_g_meeting S_g_all S_g_missed (envOf 7 ds) (fin Q E) := by
  rintro ds Q E ⟨row, ms, L, rfl, hl, hL, hv, q⟩
  simp [t_g_meeting, -forGo, -S_g_all, -S_g_missed]
  refine ⟨row, rfl, hl, fun W hW hN hWl hs => ?_⟩
  have hWl2 : W.length ≤ 65536 := Nat.le_trans hWl (Nat.le_trans (Nat.pow_le_pow_right (by decide) (show 2 * row.length ≤ 16 by omega)) (by decide))
  simp [-forGo, -S_g_missed]
  let good : List Nat → Bool := fun w => decide (ordL row w = ms) && (L.filter fun d => !meetB row w d).isEmpty
  refine for_enc' (allP row) (fun i ρ => ∃ (s4 s5 s6 : VL.Slot), ρ = [.shr (.py (tI row)), .shr (.py (tN ms)), .shr (.py (.tuple (L.map demD))), .own (.py (.list (((W.take i).filter good).map (allP row)))), s4, s5, s6]) ⟨_, _, _, rfl⟩ (fun i w ρ hw iv nx ct hn => ?_) (fun ρ iv => ?_)
  · obtain ⟨s4, s5, s6, rfl⟩ := iv
    have hH := (hW w).mp (List.mem_of_getElem? hw)
    have hi := (List.getElem?_eq_some_iff.mp hw).1
    have bl : ((W.take i).filter good).length ≤ 65536 := by
      have := List.length_filter_le good (W.take i)
      rw [List.length_take] at this; omega
    have go : ∀ (A : List (List Nat)) (s4 s5 s6 : VL.Slot), A = (W.take (i + 1)).filter good → nx [.shr (.py (tI row)), .shr (.py (tN ms)), .shr (.py (.tuple (L.map demD))), .own (.py (.list (A.map (allP row)))), s4, s5, s6] := fun A s4 s5 s6 e => by
      rw [e]; exact (hn _ ⟨_, _, _, rfl⟩).1
    rw [take_succ_get hw, List.filter_append] at go
    simp [allP, evtP, -forGo, -S_g_missed]
    refine geq_tN (a := ordL row w) (b := ms) ?_
    have eg : good w = (decide (ordL row w = ms) && (L.filter fun d => !meetB row w d).isEmpty) := rfl
    by_cases c : ordL row w = ms
    · have c' : decide (ordL row w = ms) = true := decide_eq_true c
      rw [c'] at eg
      rw [c']
      show if true = true then _ else _
      rw [if_pos rfl]
      refine ⟨row, w, L, rfl, hH, by omega, hL, hv, ?_⟩
      show if (List.map demD (L.filter fun d => !meetB row w d)).isEmpty = true then _ else _
      cases e : L.filter (fun d => !meetB row w d) with
      | nil =>
        rw [e] at eg
        rw [if_pos (show (List.map demD ([] : List Dem)).isEmpty = true from rfl)]
        refine ⟨by omega, ?_⟩
        have := go ((W.take i).filter good ++ [w]) (.shr (.py (tN (cntsL 0 w)))) (.shr (.py (.str (mkS w)))) (.shr (.py (evtP row w))) (by rw [List.filter_cons_of_pos (by rw [eg]; rfl)]; rfl)
        simpa [allP, evtP, tN] using this
      | cons a l =>
        rw [e] at eg
        rw [if_neg (by simp)]
        have := go ((W.take i).filter good) (.shr (.py (tN (cntsL 0 w)))) (.shr (.py (.str (mkS w)))) (.shr (.py (evtP row w))) (by rw [List.filter_cons_of_neg (by rw [eg]; simp)]; simp)
        simpa [allP, evtP, tN] using this
    · have c' : decide (ordL row w = ms) = false := decide_eq_false c
      rw [c'] at eg
      rw [c']
      have := go ((W.take i).filter good) (.shr (.py (tN (cntsL 0 w)))) (.shr (.py (.str (mkS w)))) (.shr (.py (evtP row w))) (by rw [List.filter_cons_of_neg (by rw [eg]; simp)]; simp)
      simpa [allP, evtP, tN] using this
  · obtain ⟨s4, s5, s6, rfl⟩ := iv
    rw [List.take_length]
    simp
    have key : ∀ w, w ∈ W.filter good ↔ MeetW row ms L w := fun w => by
      rw [List.mem_filter, hW]
      show _ ∧ (decide (ordL row w = ms) && (L.filter fun d => !meetB row w d).isEmpty) = true ↔ _
      rw [Bool.and_eq_true, decide_eq_true_eq, List.isEmpty_iff]
      constructor
      · rintro ⟨h1, h2, h3⟩
        rw [miss_nil h1 hv, h2] at h3
        exact ⟨h1, h2, h3⟩
      · rintro ⟨h1, h2, h3⟩
        refine ⟨h1, h2, ?_⟩
        rw [miss_nil h1 hv, h2]
        exact h3
    exact q _ key (hN.filter _) (by have := List.length_filter_le good W; omega) (hs.filter _)
theorem demD_swH {n : Nat} {d : Dem} (hn : n ≤ 1000) (h : d.2.1 < n ∧ d.2.2 < n) : Sw 200 3 (demD d) := by
  obtain ⟨k, x, y⟩ := d
  simp only at h
  have hk : Sw 40 2 (.str (if k then Str.ofString "soon" else Str.ofString "late")) := by cases k <;> decide +kernel
  exact (hk.t3 (Sw.pN (n := x) (by omega)) (Sw.pN (n := y) (by omega))).mono (by omega) (by omega)
theorem demL_sw {n m : Nat} {L : List Dem} (hn : n ≤ 1000) (hL : L.length ≤ m) (h : ∀ d ∈ L, d.2.1 < n ∧ d.2.2 < n) : Sw (201 * m) 4 (.tuple (L.map demD)) := (Sw.map (w := 200) (d := 3) (n := m) (f := demD) (fun d hd => demD_swH hn (h d hd)) hL).1
theorem posZ_mem {c : Nat} {w : List Nat} {x : Nat} (h : x ∈ posZ c w) : x < w.length := by
  obtain ⟨j, hj⟩ := List.mem_iff_getElem?.mp h
  exact (List.getElem?_eq_some_iff.mp ((posZ_spec c w).2 j x hj).1).1
theorem evtP_sw {row : List Int} {w : List Nat} (hl : row.length ≤ 40) (hw : HistW row.length w) : Sw (1641 * 3) 4 (evtP row w) := by
  have hwl := hw.len
  have s1 : Sw 1640 3 (.list ((posZ 97 w).map pN)) := (Sw.map (w := 40) (d := 2) (n := 40) (f := pN) (fun k hk => Sw.pN (by have := posZ_mem hk; omega)) (by rw [posZ_97 hw]; exact hl)).2
  have s2 : Sw 1640 3 (.list ((srvL row w).map pN)) := (Sw.map (w := 40) (d := 2) (n := 40) (f := pN) (fun k hk => Sw.pN (by
    unfold srvL at hk
    obtain ⟨y, hy, rfl⟩ := List.mem_map.mp hk
    rw [List.getD_eq_getElem?_getD]
    cases e : (posZ 115 w)[(ordL row w).idxOf y]? with
    | none => simp
    | some z => have := posZ_mem (List.mem_of_getElem? e); simp; omega)) (by unfold srvL; simp; exact hl)).2
  have s3 : Sw 1640 3 (tN (ordL row w)) := tN_sw (ordL_perm hw) hl
  exact Sw.lst (w := 1640) (d := 3) (n := 3) (fun p hp => by
    simp only [List.mem_cons, List.not_mem_nil, or_false] at hp
    rcases hp with rfl | rfl | rfl
    · exact s1
    · exact s2
    · exact s3) (by simp)
theorem rsp_sw {row : List Int} {w : List Nat} {L : List Dem} (hl : row.length ≤ 40) (hr : Sw 1640 3 (tI row)) (hw : HistW row.length w) (hL2 : L.length ≤ 100) (hv : ∀ d ∈ L, d.2.1 < row.length ∧ d.2.2 < row.length) : ReprOk (.list [tI row, evtP row w, .tuple (L.map demD)]) := by
  have s1 : Sw 20200 4 (tI row) := hr.mono (by omega) (by omega)
  have s2 : Sw 20200 4 (evtP row w) := (evtP_sw hl hw).mono (by omega) (by omega)
  have s3 : Sw 20200 4 (.tuple (L.map demD)) := (demL_sw (n := row.length) (m := 100) (by omega) hL2 hv).mono (by omega) (by omega)
  exact (Sw.lst (w := 20200) (d := 4) (n := 3) (fun p hp => by
    simp only [List.mem_cons, List.not_mem_nil, or_false] at hp
    rcases hp with rfl | rfl | rfl
    · exact s1
    · exact s2
    · exact s3) (by simp)).repr
end LawP
set_option Elab.async false
set_option linter.all false
set_option maxRecDepth 100000
set_option maxHeartbeats 4000000
/-! VL100: tuple(zip(a, b)) -/
namespace VL
open PySem PySem.Spec PyProof.Rows L2
section
variable {prog : Program} {w : World} {A : Around} {E : Value → Shared → Prop} {s : Shared}
theorem zl_collect {t : Bool} {B z TI TO i1 i2 a b : Addr} {xs ys : Array Value} {n : Nat} {R : List Value → Shared → Prop} (hh : A.handled = none) (D : ZipApart z TI TO i1 i2 a b) (F : ZFar z TI TO i1 i2 a b s.heap.objs.size) (b1 : B ≤ z) (b2 : B ≤ TO) (b3 : B ≤ i1) (b4 : B ≤ i2) (b5 : B ≤ s.heap.objs.size) (hx : xs.size = n) (hy : ys.size = n) (hn : n ≤ sizeLine)
    (hz : IsZip s.heap z TI TO .none) (hTI : IsPair s.heap TI (.ref i1) (.ref i2)) (hTO : ∃ x y, IsPair s.heap TO x y) (st1 : ZSrc t s.heap i1 a 0 xs) (st2 : ZSrc t s.heap i2 b 0 ys)
    (hQ : ∀ h' tk acc c as, (∀ d o, d < B → s.heap.get? d = some o → h'.get? d = some o) → h'.get? s.heap.objs.size = some (lsO acc c) → as.length = n → ZG xs ys s.heap.objs.size h' as → acc.toList = as.map Value.ref → R (as.map Value.ref) { s with heap := h', toks := tk }) :
    wpAny (model prog w) A (collect (.ref z)) R E s := by
  unfold collect
  refine wpAny_bind (wpAny_runValue (codeAny_builtin PyProof.Rows.entry_proto_collect' ?_))
  rw [Around.under_plainId PySem.F.plain_proto_collect _]
  show wpAny _ A.in1 (newList [] >>= fun l => again (.builtin "list.__iadd__" ⟨[l, .ref z], []⟩)) _ _ s
  refine wpAny_bind (wpAny_newObj_type ?_)
  refine wpAny_pure ⟨plainId_quiet PySem.F.plain_list_iadd _, codeAny_builtin PyProof.Rows.entry_list_iadd' ?_⟩
  rw [Around.under_plainId PySem.F.plain_list_iadd _]
  have hS : (s.heap.push { cls := .type "list", data := .seq ([] : List Value).toArray }).get? s.heap.objs.size = some (lsO #[] 0) := Heap.get?_push_size _ rfl
  have up : ∀ d o, s.heap.get? d = some o → (s.heap.push { cls := .type "list", data := .seq ([] : List Value).toArray }).get? d = some o := fun d o e => Heap.get?_push_of_some _ e
  generalize s.heap.push { cls := .type "list", data := .seq ([] : List Value).toArray } = g at hS up
  show wpAny _ A.in1 (Builtin.List.listExtendWith (.ref s.heap.objs.size) (.ref z) (.ref s.heap.objs.size)) _ _ _
  have key := zl_extend (prog := prog) (w := w) (A := A) (s := { s with heap := g }) (B := B) (n := n) (S := s.heap.objs.size)
    (R := fun (q : Result) (s' : Shared) => ∃ (h' : Heap) (tk : Nat) (acc' : Array Value) (c' : Nat) (as : List Addr), q = .ok (.ret (.ref s.heap.objs.size)) ∧ s' = { s with heap := h', toks := tk } ∧
      (∀ d o, d < B → s.heap.get? d = some o → h'.get? d = some o) ∧ h'.get? s.heap.objs.size = some (lsO acc' c') ∧ as.length = n ∧ ZG xs ys s.heap.objs.size h' as ∧ acc'.toList = as.map Value.ref)
    hh D F b1 b2 b3 b4 b5 hx hy hn (.ref s.heap.objs.size) (up _ _ hz) (up _ _ hTI) (hTO.imp fun x h => h.imp fun y e => up _ _ e) (st1.keep (fun o => up _ o) fun o => up _ o) (st2.keep (fun o => up _ o) fun o => up _ o) hS
    (fun h' tk acc' c' as hk hS' hl hG hacc => ⟨h', tk, acc', c', as, rfl, rfl, fun d o hd e => hk d o hd (up d o e), hS', hl, hG, hacc⟩)
  refine wpAny_mono key (fun fin s' x => ?_) fun e s' x => ?_
  · cases fin with
    | done f =>
      obtain ⟨h', tk, acc', c', as, e, rfl, hk, hS', hl, hG, hacc⟩ := x
      cases e
      show wpAny _ A (load s.heap.objs.size >>= _) _ _ _
      refine wpAny_bind (wpAny_load hS' ?_)
      refine wpAny_pure ?_
      show R acc'.toList _
      rw [hacc]
      exact hQ h' tk acc' c' as hk hS' hl hG hacc
    | again c₁ =>
      refine ⟨x.1, codeAny_mono x.2 fun q s₂ y => ?_⟩
      obtain ⟨h', tk, acc', c', as, rfl, rfl, hk, hS', hl, hG, hacc⟩ := y
      show wpAny _ A (load s.heap.objs.size >>= _) _ _ _
      refine wpAny_bind (wpAny_load hS' ?_)
      refine wpAny_pure ?_
      show R acc'.toList _
      rw [hacc]
      exact hQ h' tk acc' c' as hk hS' hl hG hacc
  · obtain ⟨_, _, _, _, _, e', _⟩ := x
    cases e'
theorem code_tupZ {t : Bool} {B z TI TO i1 i2 a b : Addr} {xs ys : Array Value} {n : Nat} {Q : Value → Shared → Prop} (hh : A.handled = none) (D : ZipApart z TI TO i1 i2 a b) (F : ZFar z TI TO i1 i2 a b s.heap.objs.size) (b1 : B ≤ z) (b2 : B ≤ TO) (b3 : B ≤ i1) (b4 : B ≤ i2) (b5 : B ≤ s.heap.objs.size) (hx : xs.size = n) (hy : ys.size = n) (hn : n ≤ sizeLine)
    (hz : IsZip s.heap z TI TO .none) (hTI : IsPair s.heap TI (.ref i1) (.ref i2)) (hTO : ∃ x y, IsPair s.heap TO x y) (st1 : ZSrc t s.heap i1 a 0 xs) (st2 : ZSrc t s.heap i2 b 0 ys)
    (hQ : ∀ h' tk acc c as, (∀ d o, d < B → s.heap.get? d = some o → h'.get? d = some o) → h'.get? s.heap.objs.size = some (lsO acc c) → as.length = n → ZG xs ys s.heap.objs.size h' as → acc.toList = as.map Value.ref → Q (.ref h'.objs.size) { s with heap := h'.push { cls := .type "tuple", data := .seq (as.map Value.ref).toArray }, toks := tk }) :
    codeAny (model prog w) A (.call (.builtin "tuple.__new__") ⟨[.type "tuple", .ref z], []⟩) (wants Q E) s := by
  refine codeAny_of_tree ?_
  show wpAny _ A.in1 (do checkBuiltinCall "tuple.__new__" ⟨[.type "tuple", .ref z], []⟩; again (.builtin "tuple.__new__" ⟨[.type "tuple", .ref z], []⟩)) _ _ s
  refine wpAny_bind (wpAny_of_eq (PySem.F.newCall_tuple_1 _) (wpAny_pure ⟨plainId_quiet PySem.F.plain_tuple_new _, codeAny_builtin PySem.F.entry_tuple_new ?_⟩))
  rw [Around.under_plainId PySem.F.plain_tuple_new _]
  have hsub := sub_tuple_self
  have hinit := init_tuple_lookup
  have hmh := madeHere_tuple
  have hTI2 : s.TypeIs (.ref z) "zip" := ⟨_, hz, rfl⟩
  have hh1 : A.in1.handled = none := hh
  wp_walk using wpAny_typeOf hTI2, zl_collect (A := A.in1) hh1 D F b1 b2 b3 b4 b5 hx hy hn hz hTI hTO st1 st2
  intro h' tk acc c as hk hS hl hG hacc
  show wpAny _ _ (Builtin.Tuple.tupleExact (as.map Value.ref).toArray >>= fun v => ret v) _ _ _
  unfold Builtin.Tuple.tupleExact
  refine wpAny_bind (wpAny_newObj_type ?_ (by show (as.map Value.ref).toArray.size ≤ sizeLine; rw [List.size_toArray, List.length_map, hl]; exact hn))
  refine wpAny_pure ?_
  exact hQ h' tk acc c as hk hS hl hG hacc
theorem call_tupZ {t : Bool} {B z TI TO i1 i2 a b : Addr} {xs ys : Array Value} {n : Nat} {Q : Value → Shared → Prop} (hh : A.handled = none) (D : ZipApart z TI TO i1 i2 a b) (F : ZFar z TI TO i1 i2 a b s.heap.objs.size) (b1 : B ≤ z) (b2 : B ≤ TO) (b3 : B ≤ i1) (b4 : B ≤ i2) (b5 : B ≤ s.heap.objs.size) (hx : xs.size = n) (hy : ys.size = n) (hn : n ≤ sizeLine)
    (hz : IsZip s.heap z TI TO .none) (hTI : IsPair s.heap TI (.ref i1) (.ref i2)) (hTO : ∃ x y, IsPair s.heap TO x y) (st1 : ZSrc t s.heap i1 a 0 xs) (st2 : ZSrc t s.heap i2 b 0 ys)
    (hQ : ∀ h' tk acc c as, (∀ d o, d < B → s.heap.get? d = some o → h'.get? d = some o) → h'.get? s.heap.objs.size = some (lsO acc c) → as.length = n → ZG xs ys s.heap.objs.size h' as → acc.toList = as.map Value.ref → Q (.ref h'.objs.size) { s with heap := h'.push { cls := .type "tuple", data := .seq (as.map Value.ref).toArray }, toks := tk }) :
    wpAny (model prog w) A (call (.type "tuple") [.ref z]) Q E s := by
  refine callType_codes (Q₁ := fun obj s₁ => s₁.TypeIs obj "tuple" ∧ Q obj s₁) PySem.F.called_tuple (PySem.F.typeCall_tuple_1 _) PySem.F.entry_object_init
    (code_tupZ (A := A.in1) hh D F b1 b2 b3 b4 b5 hx hy hn hz hTI hTO st1 st2 fun h' tk acc c as hk hS hl hG hacc => ⟨⟨_, Heap.get?_push_size _ rfl, rfl⟩, hQ h' tk acc c as hk hS hl hG hacc⟩) fun obj s₁ h₁ => ?_
  exact ⟨h₁.1, PySem.F.args_object_init_2 obj _, object_init_meets PySem.F.called_tuple.init.lookup PySem.F.called_tuple.made (by decide) prog w A.in1 _ s₁ ⟨h₁.1, rfl, h₁.2⟩⟩
end
section
variable {X : Cx}
def tTupZip (K : PySem.W.Frag) (ta : TA) : TE := fun σ H Q => ta σ H fun vs H1 => ∃ (a b : Addr) (xs ys : List V), vs = [.ref a, .ref b] ∧ xs.length = ys.length ∧ ((SqL K H1 a xs ∧ SqL K H1 b ys) ∨ (SqT K H1 a xs ∧ SqT K H1 b ys)) ∧
  ∀ (H' : Hp) (l : Addr) (ts : List Addr) (p : Addr) (o : Obj), (∀ c o, H1 c = some o → H' c = some o) → H1 l = none → (∀ t ∈ ts, H1 t = none) → l ∉ ts → ts.length = xs.length → (∀ (j : Nat) (t : Addr) (x y : V), ts[j]? = some t → xs[j]? = some x → ys[j]? = some y → ∃ o : Obj, o.dict = none ∧ H' t = some (HO.th o [x, y])) → H' p = none → o.dict = none → Q (.ref p) (upd H' p (HO.th o (ts.map V.ref)))
theorem pe_tupZip {e e2 : Expr} {ta : TA} {p p2 q pos : Pos} (hc : X.calm = true) (hg : Gl X "tuple") (hm : X.mg "tuple" = none) (hg2 : Gl X "zip") (hm2 : X.mg "zip" = none) (ha : PA X [e, e2] ta)
    (hs : starEach [e, e2] X.env = (false, eval e X.env) :: starEach [e2] X.env := by rfl) (hpl : (backTo q (starEach [e2] X.env)).any (·.1) = false := by rfl)
    (na : starEach [.Call (.Name "zip" p2) [e, e2] [] q] X.env = (false, eval (.Call (.Name "zip" p2) [e, e2] [] q) X.env) :: starEach [] X.env := by rfl) :
    PE X (.Call (.Name "tuple" p) [.Call (.Name "zip" p2) [e, e2] [] q] [] pos) (tTupZip X.K ta) := by
  refine ⟨fun pins s σ H Q I h => ?_⟩
  refine Call_ (ld_blt I hg hm boot_tuple ?_)
  refine PyProof.Rows.callWith_type1 (PyProof.Rows.args_cons ?_ na) na rfl
  refine Call_ (ld_blt I hg2 hm2 PyProof.Rows.boot_zip (PyProof.Rows.callWith_type1 (thn (ha.run q pins s σ H _ I h) fun us s1 ⟨vs, H1, I1, r1, q1⟩ => ?_) hs hpl))
  obtain ⟨a, b, xs, ys, ev, hxy, hq, q1⟩ := q1
  subst ev
  cases r1 with
  | cons r rr =>
    cases rr with
    | cons r' rr =>
      cases rr
      cases r
      cases r'
      have go : ∀ (t : Bool) (its its2 : List Value), Vals xs its → Vals ys its2 → xs.length ≤ sizeLine → a < s1.heap.objs.size → b < s1.heap.objs.size → (∀ h' : Heap, (∀ c o, s1.heap.get? c = some o → h'.get? c = some o) → (IsPair h' (s1.heap.objs.size + 2) (.ref s1.heap.objs.size) (.ref (s1.heap.objs.size + 1))) →
          IsZip h' (s1.heap.objs.size + 4) (s1.heap.objs.size + 2) (s1.heap.objs.size + 3) .none → (∃ x y, IsPair h' (s1.heap.objs.size + 3) x y) → ZSrc t h' s1.heap.objs.size a 0 its.toArray → ZSrc t h' (s1.heap.objs.size + 1) b 0 its2.toArray → h'.objs.size = s1.heap.objs.size + 5 →
          wpAny (model X.prog X.w) X.A (spliced (backTo pos (starEach [] X.env))) (fun vs s2 => wpAny (model X.prog X.w) X.A (call (.type "tuple") (Value.ref (s1.heap.objs.size + 4) :: vs)) (EP X pins σ Q) X.xe s2) X.xe { s1 with heap := h' }) := by
        intro t its its2 rv rv2 hz hla hlb h' hk hTI hzp hTO st1 st2 hsz
        refine PyProof.Rows.args_nil ?_
        have I2 : Inv X pins σ H1 { s1 with heap := h' } := I1.kept (t' := s1.toks) hk
        have l1 := rv.length
        have l2 := rv2.length
        have F : ZFar (s1.heap.objs.size + 4) (s1.heap.objs.size + 2) (s1.heap.objs.size + 3) s1.heap.objs.size (s1.heap.objs.size + 1) a b h'.objs.size := ⟨by rw [hsz]; exact Nat.lt_succ_self _, by rw [hsz]; exact Nat.add_lt_add_left (by decide) _, by rw [hsz]; exact Nat.add_lt_add_left (by decide) _, by rw [hsz]; exact Nat.lt_add_of_pos_right (by decide), by rw [hsz]; exact Nat.add_lt_add_left (by decide) _, by rw [hsz]; exact Nat.lt_of_lt_of_le hla (Nat.le_add_right _ _), by rw [hsz]; exact Nat.lt_of_lt_of_le hlb (Nat.le_add_right _ _)⟩
        refine call_tupZ (s := { s1 with heap := h' }) (B := s1.heap.objs.size) (n := its.length) (I1.ok.hd hc) (PySem.W.ktu_apart s1.heap.objs.size a b hla hlb) F (Nat.le_add_right _ _) (Nat.le_add_right _ _) (Nat.le_refl _) (Nat.le_add_right _ _) (Nat.le_of_lt F.i1) (by simp) (by simp; omega) (by omega) hzp hTI hTO st1 st2 fun g tk acc c as kp hS hl G hacc => ?_
        obtain ⟨H', k1, k2, k3, k4, k5, k6, J⟩ := zl_laid (tk := tk) (S := h'.objs.size) (by rw [hsz]; exact Nat.le_add_right _ _) I1 rv rv2 hxy hz (fun c o e => kp c o (Heap.lt_size e) (hk c o e)) hS hl G hacc
        have nt := new_th (tk := tk) (Q := Q) J (xs := as.map V.ref) (by rw [List.length_map]; omega) (LiI.vals_refs as) (fun p o hp ho => q1 H' _ as p o k1 k2 k3 k4 (by rw [hl]; exact l1.symm) k6 hp ho)
        exact nt
      rcases hq with ⟨hqx, hqy⟩ | ⟨hqx, hqy⟩
      · obtain ⟨its, rv, p1, hz⟩ := I1.list hqx
        obtain ⟨its2, rv2, p2', _⟩ := I1.list hqy
        refine call_zip_2 p1.isList p2'.isList fun h' hzp hTI hTO h1 h2 hsz hk => ?_
        exact go false its its2 rv rv2 hz p1.lt p2'.lt h' hk hTI hzp ⟨_, _, hTO⟩ ⟨h1, p1.isList.at fun o e => hk _ o e⟩ ⟨h2, p2'.isList.at fun o e => hk _ o e⟩ hsz
      · obtain ⟨its, rv, p1, hz⟩ := I1.tuple hqx
        obtain ⟨its2, rv2, p2', _⟩ := I1.tuple hqy
        obtain ⟨o1, ho1, _⟩ := id p1
        obtain ⟨o2, ho2, _⟩ := id p2'
        have t1 : s1.heap.IsTuple a its.toArray := p1
        have t2 : s1.heap.IsTuple b its2.toArray := p2'
        refine RZ.call_zipT t1 t2 fun h' hzp hTI hTO h1 h2 hsz hk => ?_
        exact go true its its2 rv rv2 hz (Heap.lt_size ho1) (Heap.lt_size ho2) h' hk hTI hzp ⟨_, _, hTO⟩ ⟨h1, t1.at fun o e => hk _ o e⟩ ⟨h2, t2.at fun o e => hk _ o e⟩ hsz
end
/-! ### over values -/
@[simp] def gTupZ : List D → (D → Prop) → Prop
  | [.py (.list xs), .py (.list ys)], Q => xs.length = ys.length ∧ Q (.py (.tuple (zip2P xs ys)))
  | [.py (.tuple xs), .py (.tuple ys)], Q => xs.length = ys.length ∧ Q (.py (.tuple (zip2P xs ys)))
  | _, _ => False
theorem ve_tupZ {X : Cx} {b : Bg} {W : WX} {e e2 : Expr} {u : VA} {p p2 q pos : Pos} (hc : X.calm = true) (hg : Gl X "tuple") (hm : X.mg "tuple" = none) (hg2 : Gl X "zip") (hm2 : X.mg "zip" = none) (ha : VAs X b W [e, e2] u)
    (hs : starEach [e, e2] X.env = (false, eval e X.env) :: starEach [e2] X.env := by rfl) (hpl : (backTo q (starEach [e2] X.env)).any (·.1) = false := by rfl)
    (na : starEach [.Call (.Name "zip" p2) [e, e2] [] q] X.env = (false, eval (.Call (.Name "zip" p2) [e, e2] [] q) X.env) :: starEach [] X.env := by rfl) :
    VE X b W (.Call (.Name "tuple" p) [.Call (.Name "zip" p2) [e, e2] [] q] [] pos) (vCal gTupZ u) :=
  pe_mono (pe_tupZip hc hg hm hg2 hm2 ha hs hpl na) fun σ H Q ⟨Zo, Z, ρ, Qd, Ed, v, qq, l, m⟩ => ⟨Zo, Z, ρ, _, Ed, v, qq, fun vs H1 ds x1 g1 r1 q1 => by
    have v1 := v.ex x1 g1
    have fin : ∀ (a a2 : Addr) (xs ys : List V) (dxs dys : List PyData), vs = [.ref a, .ref a2] → ((SqL X.K H1 a xs ∧ SqL X.K H1 a2 ys) ∨ (SqT X.K H1 a xs ∧ SqT X.K H1 a2 ys)) → Rqs Z H1 xs dxs → Rqs Z H1 ys dys → dxs.length = dys.length → Qd (.py (.tuple (zip2P dxs dys))) →
        ∃ (a b : Addr) (xs ys : List V), vs = [.ref a, .ref b] ∧ xs.length = ys.length ∧ ((SqL X.K H1 a xs ∧ SqL X.K H1 b ys) ∨ (SqT X.K H1 a xs ∧ SqT X.K H1 b ys)) ∧
          ∀ (H' : Hp) (l : Addr) (ts : List Addr) (p : Addr) (o : Obj), (∀ c o, H1 c = some o → H' c = some o) → H1 l = none → (∀ t ∈ ts, H1 t = none) → l ∉ ts → ts.length = xs.length → (∀ (j : Nat) (t : Addr) (x y : V), ts[j]? = some t → xs[j]? = some x → ys[j]? = some y → ∃ o : Obj, o.dict = none ∧ H' t = some (HO.th o [x, y])) → H' p = none → o.dict = none → Q (.ref p) (upd H' p (HO.th o (ts.map V.ref))) := by
      intro a a2 xs ys dxs dys ev hq rx ry hl q2
      refine ⟨a, a2, xs, ys, ev, by rw [rx.length, ry.length]; exact hl, hq, fun H' lp ts pp o k1 k2 k3 k4 k6 k7 hp ho => ?_⟩
      have x2 : Ex b H1 H' := fun c o e _ => k1 c o e
      have g2 : b.G H' := b.loc H1 H' (fun c hb => by
        cases e : H1 c with
        | none => exact absurd e (b.dom H1 c g1 hb)
        | some o => exact k1 c o e) (fun c o _ e => k1 c o e) g1
      have hz : ∀ c, Z c → Z c ∨ H1 c = none := fun c z => .inl z
      have v2 := v1.ex x2 g2
      have rz := rqs_zip k6 (by rw [rx.length, ry.length]; exact hl) (rx.mono hz fun c o e _ => k1 c o e) (ry.mono hz fun c o e _ => k1 c o e) (fun t ht z => v1.fresh (k3 t ht) z) k7
      refine l _ _ (.py (.tuple (zip2P dxs dys))) ((x1.trans x2).trans (Ex.new hp)) (Bg.new g2 hp) ?_ q2
      exact Rq.tup upd_same ho (v2.fresh hp) (rz.mono (fun _ z => .inl z) (up hp))
    match ds, q1, r1 with
    | [.py (.list dxs), .py (.list dys)], ⟨hl, q2⟩, .cons ra (.cons rb .nil) =>
      have ra : Rq Z H1 _ (.list dxs) := ra
      have rb : Rq Z H1 _ (.list dys) := rb
      cases ra with
      | lst ea na ra =>
        cases rb with
        | lst eb nb rb => exact fin _ _ _ _ _ _ rfl (.inl ⟨SqL.of ea, SqL.of eb⟩) ra rb hl q2
    | [.py (.tuple dxs), .py (.tuple dys)], ⟨hl, q2⟩, .cons ra (.cons rb .nil) =>
      have ra : Rq Z H1 _ (.tuple dxs) := ra
      have rb : Rq Z H1 _ (.tuple dys) := rb
      cases ra with
      | tup ea da na ra =>
        cases rb with
        | tup eb db nb rb => exact fin _ _ _ _ _ _ rfl (.inr ⟨SqT.th ea, SqT.th eb⟩) ra rb hl q2, m⟩
end VL
set_option Elab.async false
set_option linter.all false
set_option maxRecDepth 100000
set_option maxHeartbeats 4000000
namespace LawP
open PySem PySem.Spec PyProof.Rows L2 VL
def t_arrival_ranges (S_stairs_for : SV) (S_Stairs_is_open : SV) : VS :=
  (sSeq (sSet 3 (vCall S_stairs_for (vCons (vVar 0) (vCons (vVar 1) (vCons (vVar 2) vNil)))))
  (sRet (vIf (vTst (vMeth "Stairs" "is_open" S_Stairs_is_open (vVar 3) vNil)) (vCal gTupZ (vCons (vUn (gFld "Stairs" "low") (vBor 3)) (vCons (vUn (gFld "Stairs" "high") (vBor 3)) vNil))) (vC (.py .none)))))
end LawP
set_option Elab.async false
set_option linter.all false
set_option maxRecDepth 100000
set_option maxHeartbeats 4000000
namespace LawP
open PySem PySem.Spec PyProof.Rows L2 VL
/-- the least and the greatest counts -/
def rangesP (row : List Int) (ms : List Nat) (L : List Dem) : PyData := .tuple ((List.range row.length).map fun k => .tuple [pN (loL ms (ownL row ms ++ L) k), pN (hiL ms (ownL row ms ++ L) k)])
def arrP (row : List Int) (ms : List Nat) (L : List Dem) : PyData := if OpenD ms (ownL row ms ++ L) row.length then rangesP row ms L else .none
@[simp] def S_arrival_ranges : SV := fun ds Q E => ∃ (row : List Int) (p dp : PyData), ds = [.py (tI row), .py p, .py dp] ∧ ordDem row p dp E fun ms L => Q (.py (arrP row ms L))
theorem l_arrival_ranges : ∀ ds Q E, S_arrival_ranges ds Q E → t_arrival_ranges S_stairs_for S_Stairs_is_open (envOf 4 ds) (fin Q E) := by
  rintro ds Q E ⟨row, p, dp, rfl, h0, hl, h1, h2, q1, q2⟩
  simp [t_arrival_ranges, -S_stairs_for, -S_Stairs_is_open]
  refine ⟨row, p, dp, rfl, h0, hl, h1, h2, fun ms e hp => ⟨fun po => ⟨fun L e2 hL hv a => ?_, ((q1 ms e hp).1 po).2⟩, (q1 ms e hp).2⟩, q2⟩
  have q : Q (.py (arrP row ms L)) := ((q1 ms e hp).1 po).1 L e2 hL hv
  have lm := perm_len hp
  subst e e2
  refine ⟨a, _, rfl, stF_no (by decide +kernel), ms, allD row ms L, a, rfl, by omega, ?_⟩
  unfold arrP at q
  show if decide (OpenD ms (allD row ms L) ms.length) = true then _ else _
  by_cases o : OpenD ms (ownL row ms ++ L) row.length
  · have o' : OpenD ms (allD row ms L) ms.length := by rw [lm]; exact open_allD.mpr o
    rw [if_pos o] at q
    rw [if_pos (by rw [decide_eq_true_eq]; exact o')]
    refine ⟨rfl, _, rfl, rfl, _, rfl, by simp [csLoL, csHiL], ?_⟩
    have ez : zip2P ((csLoL ms (allD row ms L) ms.length).map pN) ((csHiL ms (allD row ms L) ms.length).map pN) = (List.range row.length).map fun k => PyData.tuple [pN (loL ms (ownL row ms ++ L) k), pN (hiL ms (ownL row ms ++ L) k)] := by
      unfold csLoL csHiL
      rw [List.map_map, List.map_map, zip_range2, lm]
      exact List.map_congr_left fun k _ => by simp only [Function.comp, lo_allD, hi_allD]
    rw [ez]; exact q
  · have o' : ¬ OpenD ms (allD row ms L) ms.length := by rw [lm]; exact fun h => o (open_allD.mp h)
    rw [if_neg o] at q
    rw [if_neg (by rw [decide_eq_true_eq]; exact o')]
    exact q
end LawP
set_option Elab.async false
set_option linter.all false
set_option maxRecDepth 100000
set_option maxHeartbeats 4000000
namespace LawP
open PySem PySem.Spec PyProof.Rows L2 VL
def t_law_due_far (S_g_stairs : SV) : VS :=
  (sSeq (sSet 3 (vCall S_g_stairs (vCons (vVar 0) (vCons (vVar 1) (vCons (vVar 2) vNil)))))
  (sSeq (sIf (vTst (vBin (gIsN false) (vBor 3) (vC (.py .none))))
  (sRet (vLst (vCons (vC (.py .none)) (vCons (vC (.py .none)) (vCons (vC (.py .none)) vNil)))))
  sNext)
  (sSeq (sSetN 4 (vLst (vCons (vCal gTuple (vCons (vLc [9] (iR1 (vCons (vCal gLen (vCons (vBor 0) vNil)) vNil)) (tgName 9) wYes (vTup (vCons (vBin gIx (vBin gIx (vBor 3) (vC (.py (.int 0)))) (vBor 9)) (vCons (vBin gIx (vBin gIx (vBor 3) (vC (.py (.int 1)))) (vBor 9)) vNil)))) vNil)) vNil)))
  (sSeq (sFor (iS (vVar 3)) (tgName 5)
  (sSeq (sPar [6, 7] (mCons false (vC (.py (.str ""))) (mCons false (vC (.py (.int 0))) mNil)))
  (sSeq (sFor (iS (vVar 5)) (tgName 8)
  (sPar [6, 7] (mCons false (vBin gAdd (vBin gAdd (vBor 6) (vBin gMulA (vC (.py (.str "s"))) (vBin gSub (vBor 8) (vBor 7)))) (vC (.py (.str "a")))) (mCons false (vVar 8) mNil))))
  (sMut 4 gApp (vCons (vBin gAdd (vBor 6) (vBin gMulA (vC (.py (.str "s"))) (vBin gSub (vCal gLen (vCons (vBor 0) vNil)) (vBor 7)))) vNil)))))
  (sFrz 4 (sRet (vVar 4)))))))
def t_law_due (S_g_meeting : SV) : VS :=
  (sSeq (sSet 3 (vCall S_g_meeting (vCons (vVar 0) (vCons (vVar 1) (vCons (vVar 2) vNil)))))
  (sSeq (sIf (vTst (vBin gEq (vBor 3) (vLst vNil)))
  (sRet (vLst (vCons (vC (.py .none)) (vCons (vC (.py .none)) (vCons (vC (.py .none)) vNil)))))
  sNext)
  (sSeq (sSet 4 (vLc [8] (iR1 (vCons (vCal gLen (vCons (vBor 0) vNil)) vNil)) (tgName 8) wYes (vCal gMin (vCons (vLc [9] (iS (vBor 3)) (tgName 9) wYes (vBin gIx (vBin gIx (vBor 9) (vC (.py (.int 0)))) (vBor 8))) vNil))))
  (sSeq (sSet 5 (vLc [8] (iR1 (vCons (vCal gLen (vCons (vBor 0) vNil)) vNil)) (tgName 8) wYes (vCal gMax (vCons (vLc [9] (iS (vBor 3)) (tgName 9) wYes (vBin gIx (vBin gIx (vBor 9) (vC (.py (.int 0)))) (vBor 8))) vNil))))
  (sSeq (sSetN 6 (vLst (vCons (vCal gTuple (vCons (vLc [8] (iR1 (vCons (vCal gLen (vCons (vBor 0) vNil)) vNil)) (tgName 8) wYes (vTup (vCons (vBin gIx (vBor 4) (vBor 8)) (vCons (vBin gIx (vBor 5) (vBor 8)) vNil)))) vNil)) vNil)))
  (sSeq (sFor (iS (vLst (vCons (vVar 4) (vCons (vVar 5) vNil)))) (tgName 7)
  (sMut 6 gApp (vCons (vBin gIx (vLc [10, 11, 12] (iS (vBor 3)) (tgUnl 3 (tgCons (tgName 10) (tgCons (tgName 11) (tgCons (tgName 12) tgNil)))) (vTst (vBin gEq (vBor 10) (vCal gTuple (vCons (vBor 7) vNil)))) (vVar 11)) (vC (.py (.int 0)))) vNil)))
  (sFrz 6 (sRet (vVar 6)))))))))
def t_law (S_g_row : SV) (S_g_events : SV) (S_g_word : SV) (S_g_demands : SV) (S_law_due_far : SV) (S_law_due : SV) (S_arrival_ranges : SV) (S_meeting_word : SV) : VS :=
  (sSeq (sFor (iR1 (vCons (vC (.py (.int 8))) vNil)) (tgName 2)
  (sSeq (sSet 3 (vCall S_g_row (vCons (vVar 1) (vCons (vBin gIx (vLst (vCons (vC (.py (.int 5))) (vCons (vC (.py (.int 40))) vNil))) (vBin gMod (vBor 2) (vC (.py (.int 2))))) vNil))))
  (sSeq (sSet 4 (vCall S_g_events (vCons (vVar 3) (vCons (vCall S_g_word (vCons (vVar 1) (vCons (vCal gLen (vCons (vBor 3) vNil)) vNil))) vNil))))
  (sSeq (sSet 5 (vCall S_g_demands (vCons (vVar 1) (vCons (vVar 3) (vCons (vVar 4) (vCons (vBin gIx (vLst (vCons (vC (.py (.int 5))) (vCons (vC (.py (.int 30))) vNil))) (vBin gMod (vBor 2) (vC (.py (.int 2))))) vNil))))))
  (sSeq (sPar [6, 7] (mCons false (vCal gRepr (vCons (vLst (vCons (vVar 3) (vCons (vVar 4) (vCons (vVar 5) vNil)))) vNil)) (mCons false (vCall S_law_due_far (vCons (vVar 3) (vCons (vBin gIx (vBor 4) (vC (.py (.int 2)))) (vCons (vVar 5) vNil)))) mNil)))
  (sSeq (sIf (wAnd (vTst (vBin gLt (vCal gLen (vCons (vBor 3) vNil)) (vC (.py (.int 6))))) (vTst (vBin gNe (vBor 7) (vCall S_law_due (vCons (vVar 3) (vCons (vBin gIx (vBor 4) (vC (.py (.int 2)))) (vCons (vVar 5) vNil)))))))
  (sRet (vC (.py (.bool false))))
  sNext)
  (sSeq (sFor (iR1 (vCons (vC (.py (.int 2))) vNil)) (tgName 8)
  (sSeq (sSetN 9 (vLst (vCons (vCall S_arrival_ranges (vCons (vVar 3) (vCons (vBin gIx (vBor 4) (vC (.py (.int 2)))) (vCons (vVar 5) vNil)))) (vCons (vCall (svW (.bool false) S_meeting_word) (vCons (vVar 3) (vCons (vBin gIx (vBor 4) (vC (.py (.int 2)))) (vCons (vVar 5) vNil)))) vNil))))
  (sSeq (sMut 9 gApp (vCons (vCallW S_meeting_word (vCons (vVar 3) (vCons (vBin gIx (vBor 4) (vC (.py (.int 2)))) (vCons (vVar 5) vNil))) (vC (.py (.bool true)))) vNil))
  (sSeq (sIf (vTst (vBin gNe (vCal gRepr (vCons (vBor 9) vNil)) (vCal gRepr (vCons (vBor 7) vNil))))
  (sRet (vC (.py (.bool false))))
  sNext)
  (sIf (vTst (vBin gNe (vCal gRepr (vCons (vCallW S_meeting_word (vCons (vVar 3) (vCons (vBin gIx (vBor 4) (vC (.py (.int 2)))) (vCons (vVar 5) vNil))) (vC (.py (.bool false)))) vNil)) (vCal gRepr (vCons (vBin gIx (vBor 7) (vC (.py (.int 1)))) vNil))))
  (sRet (vC (.py (.bool false))))
  sNext)))))
  (sIf (vTst (vBin gNe (vCal gRepr (vCons (vLst (vCons (vVar 3) (vCons (vVar 4) (vCons (vVar 5) vNil)))) vNil)) (vBor 6)))
  (sRet (vC (.py (.bool false))))
  sNext))))))))
  (sRet (vC (.py (.bool true)))))
end LawP
set_option Elab.async false
set_option linter.all false
set_option maxRecDepth 100000
set_option maxHeartbeats 4000000
namespace LawP
open PySem PySem.Spec PyProof.Rows L2 VL
def loC (row : List Int) (ms : List Nat) (L : List Dem) : List Nat := csLoL ms (ownL row ms ++ L) row.length
def hiC (row : List Int) (ms : List Nat) (L : List Dem) : List Nat := csHiL ms (ownL row ms ++ L) row.length
def OpenO (row : List Int) (ms : List Nat) (L : List Dem) : Prop := OpenD ms (ownL row ms ++ L) row.length
def dueP (row : List Int) (ms : List Nat) (L : List Dem) : PyData := .list [arrP row ms L, mwP row ms L false, mwP row ms L true]
theorem due_open {row : List Int} {ms : List Nat} {L : List Dem} (o : OpenO row ms L) : dueP row ms L = .list [rangesP row ms L, .str (mkS (wordC row.length 0 (loC row ms L))), .str (mkS (wordC row.length 0 (hiC row ms L)))] := by
  unfold OpenO at o
  unfold dueP arrP mwP
  simp only [if_pos o]; rfl
theorem due_shut {row : List Int} {ms : List Nat} {L : List Dem} (o : ¬ OpenO row ms L) : dueP row ms L = .list [.none, .none, .none] := by
  unfold OpenO at o
  unfold dueP arrP mwP
  simp only [if_neg o]
structure Hd (row : List Int) (ms : List Nat) (L : List Dem) : Prop where
  h0 : row ≠ []
  hl : row.length ≤ 40
  hp : ms.Perm (List.range row.length)
  po : Poss row ms
  hL : L.length ≤ 30
  hv : ∀ d ∈ L, d.2.1 < row.length ∧ d.2.2 < row.length
theorem lo_at {row : List Int} {ms : List Nat} {L : List Dem} {k : Nat} (h : k < row.length) : atI ((loC row ms L).map pN) (k : Int) = some (pN (loL ms (ownL row ms ++ L) k)) := atI_map (by unfold loC csLoL; rw [List.getElem?_map, List.getElem?_range h]; rfl)
theorem hi_at {row : List Int} {ms : List Nat} {L : List Dem} {k : Nat} (h : k < row.length) : atI ((hiC row ms L).map pN) (k : Int) = some (pN (hiL ms (ownL row ms ++ L) k)) := atI_map (by unfold hiC csHiL; rw [List.getElem?_map, List.getElem?_range h]; rfl)
@[simp] def S_law_due_far : SV := fun ds Q _ => ∃ (row : List Int) (ms : List Nat) (L : List Dem), ds = [.py (tI row), .py (tN ms), .py (.tuple (L.map demD))] ∧ Hd row ms L ∧ Q (.py (dueP row ms L))
theorem wordC_step {n s c : Nat} {cs : List Nat} : wordC n s (c :: cs) = List.replicate (c - s) 115 ++ 97 :: wordC n c cs := rfl
theorem l_law_due_far : ∀ ds Q E, S_law_due_far ds Q E → t_law_due_far S_g_stairs (envOf 10 ds) (fin Q E) := by
  rintro ds Q E ⟨row, ms, L, rfl, H, q⟩
  have hl := H.hl
  have kd := ((poss_own H.hp).mp H.po).1
  simp [t_law_due_far, -forGo, -lcGo, -S_g_stairs]
  refine ⟨row, ms, L, rfl, H.h0, H.hp, H.hl, by have := H.hL; omega, H.hv, ?_⟩
  by_cases o : OpenO row ms L
  · rw [due_open o] at q
    have e : stP row ms L = .list [.list ((loC row ms L).map pN), .list ((hiC row ms L).map pN)] := by unfold stP; rw [if_pos ⟨kd, o⟩]; rfl
    rw [e]
    simp [-forGo, -lcGo]
    refine ⟨by omega, ?_⟩
    rw [rangeP_eq]
    refine lc_encM (encR 0) (fun k => .tuple [pN (loL ms (ownL row ms ++ L) k), pN (hiL ms (ownL row ms ++ L) k)]) (fun i k hk kk k1 => ?_) (by simp; omega) ?_
    · obtain ⟨rfl, hk⟩ := range_get hk
      have hk : k < row.length := by simpa using hk
      simp [lcStep]
      exact ⟨_, lo_at hk, _, hi_at hk, by simpa using k1⟩
    simp [-forGo, -lcGo]
    have ok : ∀ cs ∈ [loC row ms L, hiC row ms L], CntOk row.length cs := fun cs hc => by
      simp only [List.mem_cons, List.not_mem_nil, or_false] at hc
      rcases hc with rfl | rfl
      · exact csLoL_ok o
      · exact csHiL_ok
    let stv : PyData := .list [.list ((loC row ms L).map pN), .list ((hiC row ms L).map pN)]
    refine for_enc (fun cs : List Nat => PyData.list (cs.map pN)) (L := [loC row ms L, hiC row ms L]) (fun i ρ => ∃ (s5 s6 s7 s8 : VL.Slot), ρ = [.shr (.py (tI row)), .shr (.py (tN ms)), .shr (.py (.tuple (L.map demD))), .shr (.py stv), .own (.py (.list (rangesP row ms L :: (([loC row ms L, hiC row ms L] : List (List Nat)).take i).map fun cs => .str (mkS (wordC row.length 0 cs))))), s5, s6, s7, s8, .un]) ⟨_, _, _, _, rfl⟩ (fun i cs ρ hc iv nx ct hn => ?_) (fun ρ iv => ?_)
    · obtain ⟨s5, s6, s7, s8, rfl⟩ := iv
      have hk := ok cs (List.mem_of_getElem? hc)
      have hln : cs.length = row.length := hk.len
      have hi : i < 2 := (List.getElem?_eq_some_iff.mp hc).1
      have go : ∀ (s5 s6 s7 s8 : VL.Slot), nx [.shr (.py (tI row)), .shr (.py (tN ms)), .shr (.py (.tuple (L.map demD))), .shr (.py stv), .own (.py (.list ((rangesP row ms L :: (([loC row ms L, hiC row ms L] : List (List Nat)).take i).map fun cs => .str (mkS (wordC row.length 0 cs))) ++ [.str (mkS (wordC row.length 0 cs))]))), s5, s6, s7, s8, .un] := fun s5 s6 s7 s8 => by
        have := (hn _ ⟨s5, s6, s7, s8, rfl⟩).1
        rw [take_succ_get hc, List.map_append] at this
        exact this
      generalize hW : (rangesP row ms L :: (([loC row ms L, hiC row ms L] : List (List Nat)).take i).map fun cs => PyData.str (mkS (wordC row.length 0 cs))) = WW at go ⊢
      have hWl : WW.length ≤ 4 := by rw [← hW]; simp; omega
      simp [-forGo]
      refine for_enc' pN (fun j ρ => ∃ (w : List Nat) (s : Nat) (s8 : VL.Slot), ρ = [.shr (.py (tI row)), .shr (.py (tN ms)), .shr (.py (.tuple (L.map demD))), .shr (.py stv), .own (.py (.list WW)), .shr (.py (.list (cs.map pN))), .shr (.py (.str (mkS w))), .shr (.py (.int (s : Nat))), s8, .un] ∧ w ++ wordC row.length s (cs.drop j) = wordC row.length 0 cs ∧ s ≤ row.length) ⟨[], 0, _, rfl, rfl, Nat.zero_le _⟩ (fun j c ρ hcj iv nx2 ct2 hn2 => ?_) (fun ρ iv => ?_)
      · obtain ⟨w, s, s8, rfl, j1, j2⟩ := iv
        rw [drop_at' hcj, wordC_step] at j1
        have hc2 : c ≤ row.length := by
          have hjl := (List.getElem?_eq_some_iff.mp hcj).1
          have := hk.le j (by omega)
          rw [fnOf_get hjl, (List.getElem?_eq_some_iff.mp hcj).2] at this
          omega
        have hwl : (wordC row.length 0 cs).length = 2 * row.length := hk.hist.len
        have h80 := congrArg List.length j1
        simp at h80
        simp [pN]
        have ecs : ((c : Int) - (s : Int)).toNat = c - s := by omega
        refine ⟨by omega, by omega, by omega, ?_⟩
        exact (hn2 _ ⟨w ++ (List.replicate (c - s) 115 ++ [97]), c, .shr (.py (.int (c : Nat))), rfl, by rw [← j1]; simp, hc2⟩).1
      · obtain ⟨w, s, s8, rfl, j1, j2⟩ := iv
        rw [List.drop_length] at j1
        have j1 : w ++ List.replicate (row.length - s) 115 = wordC row.length 0 cs := j1
        have hwl : (wordC row.length 0 cs).length = 2 * row.length := hk.hist.len
        have h80 := congrArg List.length j1
        simp at h80
        simp
        refine ⟨by omega, by omega, by omega, ?_⟩
        rw [j1]
        exact go _ _ _ _
    · obtain ⟨s5, s6, s7, s8, rfl⟩ := iv
      simp
      exact q
  · rw [due_shut o] at q
    have e : stP row ms L = .none := by unfold stP; rw [if_neg (fun h => o h.2)]
    rw [e]
    simp
    exact q
/-! ### by all histories -/
theorem meetW_counts {row : List Int} {ms : List Nat} {L : List Dem} (H : Hd row ms L) {cs : List Nat} (hc : CntOk row.length cs) (hm : ∀ e ∈ ownL row ms ++ L, metB ms (fnOf cs) e = true) : MeetW row ms L (wordC row.length 0 cs) := by
  have hf : Fits row ms (fnOf cs) := (fits_own ((poss_own H.hp).mp H.po).1).mpr fun e he => hm e (List.mem_append_left _ he)
  have ho := ord_word H.hp hc hf
  refine ⟨ho.1, ho.2, fun e he => ?_⟩
  rw [hc.cnts]; exact hm e (List.mem_append_right _ he)
theorem hA {row : List Int} {ms : List Nat} {L : List Dem} (H : Hd row ms L) : ∀ e ∈ ownL row ms ++ L, e.2.1 < row.length ∧ e.2.2 < row.length := fun e he => (List.mem_append.mp he).elim (ownL_ok e) (H.hv e)
theorem meetW_between {row : List Int} {ms : List Nat} {L : List Dem} (H : Hd row ms L) {w : List Nat} (mw : MeetW row ms L w) : OpenO row ms L ∧ ∀ k, k < row.length → loL ms (ownL row ms ++ L) k ≤ fnOf (cntsL 0 w) k ∧ fnOf (cntsL 0 w) k ≤ hiL ms (ownL row ms ++ L) k := by
  have hm : ∀ e ∈ ownL row ms ++ L, metB ms (fnOf (cntsL 0 w)) e = true := (ordL_met H.hp H.po mw.h).mp ⟨mw.o, mw.m⟩
  have hb := (met_cnt (hA H) mw.h.cnt).mp hm
  exact ⟨fun k hk => by have := hb k hk; omega, hb⟩
theorem lo_word {row : List Int} {ms : List Nat} {L : List Dem} (H : Hd row ms L) (o : OpenO row ms L) : MeetW row ms L (wordC row.length 0 (loC row ms L)) := meetW_counts H (csLoL_ok o) (csLoL_met (hA H) o)
theorem hi_word {row : List Int} {ms : List Nat} {L : List Dem} (H : Hd row ms L) (o : OpenO row ms L) : MeetW row ms L (wordC row.length 0 (hiC row ms L)) := meetW_counts H csHiL_ok (csHiL_met (hA H) o)
theorem fn_lo {row : List Int} {ms : List Nat} {L : List Dem} {k : Nat} (h : k < row.length) : fnOf (loC row ms L) k = loL ms (ownL row ms ++ L) k := fnOf_map _ h
theorem fn_hi {row : List Int} {ms : List Nat} {L : List Dem} {k : Nat} (h : k < row.length) : fnOf (hiC row ms L) k = hiL ms (ownL row ms ++ L) k := fnOf_map _ h
@[simp] def S_law_due : SV := fun ds Q _ => ∃ (row : List Int) (ms : List Nat) (L : List Dem), ds = [.py (tI row), .py (tN ms), .py (.tuple (L.map demD))] ∧ Hd row ms L ∧ row.length ≤ 8 ∧ Q (.py (dueP row ms L))
theorem l_law_due : ∀ ds Q E, S_law_due ds Q E → t_law_due S_g_meeting (envOf 13 ds) (fin Q E) := by
  rintro ds Q E ⟨row, ms, L, rfl, H, h8, q⟩
  simp [t_law_due, -forGo, -lcGo, -S_g_meeting]
  refine ⟨row, ms, L, rfl, h8, by have := H.hL; omega, H.hv, fun M hM hN hMl _ => ?_⟩
  simp [-forGo, -lcGo]
  by_cases o : OpenO row ms L
  · rw [due_open o] at q
    have ne : M ≠ [] := fun e => by have := (hM _).mpr (lo_word H o); rw [e] at this; cases this
    have cl : ∀ w ∈ M, (cntsL 0 w).length = row.length := fun w hw => ((hM w).mp hw).h.cnt.len
    have mnk : ∀ k, k < row.length → minL ((M.map fun w => fnOf (cntsL 0 w) k).map fun (n : Nat) => (n : Int)) = (loL ms (ownL row ms ++ L) k : Nat) := fun k hk => by
      obtain ⟨a1, a2⟩ := minL_spec ((M.map fun w => fnOf (cntsL 0 w) k).map fun (n : Nat) => (n : Int)) (by simpa using ne)
      apply Int.le_antisymm
      · refine a2 _ ?_
        rw [List.map_map]
        refine List.mem_map.mpr ⟨_, (hM _).mpr (lo_word H o), ?_⟩
        simp only [Function.comp]
        rw [show cntsL 0 (wordC row.length 0 (loC row ms L)) = loC row ms L from CntOk.cnts (csLoL_ok o), fn_lo hk]
      · rw [List.map_map] at a1
        obtain ⟨w, hw, e⟩ := List.mem_map.mp a1
        simp only [List.map_map]
        rw [← e]
        have := ((meetW_between H ((hM w).mp hw)).2 k hk).1
        simp only [Function.comp]; omega
    have mxk : ∀ k, k < row.length → maxL ((M.map fun w => fnOf (cntsL 0 w) k).map fun (n : Nat) => (n : Int)) = (hiL ms (ownL row ms ++ L) k : Nat) := fun k hk => by
      obtain ⟨a1, a2⟩ := maxL_spec ((M.map fun w => fnOf (cntsL 0 w) k).map fun (n : Nat) => (n : Int)) (by simpa using ne)
      apply Int.le_antisymm
      · rw [List.map_map] at a1
        obtain ⟨w, hw, e⟩ := List.mem_map.mp a1
        simp only [List.map_map]
        rw [← e]
        have := ((meetW_between H ((hM w).mp hw)).2 k hk).2
        simp only [Function.comp]; omega
      · refine a2 _ ?_
        rw [List.map_map]
        refine List.mem_map.mpr ⟨_, (hM _).mpr (hi_word H o), ?_⟩
        simp only [Function.comp]
        rw [show cntsL 0 (wordC row.length 0 (hiC row ms L)) = hiC row ms L from CntOk.cnts csHiL_ok, fn_hi hk]
    have gM : ∀ {w : List Nat} {k : Nat}, w ∈ M → k < row.length → atI ((cntsL 0 w).map pN) (k : Int) = some (pN (fnOf (cntsL 0 w) k)) := fun {w k} hw hk => atI_map (by rw [fnOf_get (by rw [cl w hw]; exact hk), List.getElem?_eq_getElem (by rw [cl w hw]; exact hk)])
    have he : (M.map (allP row)).isEmpty = false := by simpa using ne
    rw [if_neg (by simpa using ne)]
    have hl := H.hl
    have inner : ∀ {k : Nat} {ρ : VEnv} {Q : D → Prop}, k < row.length → ρ[8]? = some (.shr (.py (.int (k : Nat)))) → 9 < ρ.length → Q (.py (.list (M.map fun w => pN (fnOf (cntsL 0 w) k)))) → lcGo (tgName 9) wYes (vBin gIx (vBin gIx (vBor 9) (vC (D.py (PyData.int 0)))) (vBor 8)) Q (M.map (D.py ∘ allP row)) [] ρ := by
      intro k ρ Q hk h8 h9 hq
      refine lc_encM' (allP row) (fun w => pN (fnOf (cntsL 0 w) k)) (fun i w hw kk k1 => ?_) (by omega) hq
      simp [lcStep, allP, h8, h9]
      exact ⟨_, gM (List.mem_of_getElem? hw) hk, by simpa using k1⟩
    refine ⟨by omega, ?_⟩
    rw [rangeP_eq]
    refine lc_encM (encR 0) (fun k => pN (loL ms (ownL row ms ++ L) k)) (fun i k hk kk k1 => ?_) (by simp; omega) ?_
    · obtain ⟨rfl, hk⟩ := range_get hk
      have hk : k < row.length := by simpa using hk
      simp [lcStep, -lcGo]
      refine inner hk rfl (by simp) ?_
      rw [show (M.map fun w => pN (fnOf (cntsL 0 w) k)) = (M.map fun w => fnOf (cntsL 0 w) k).map pN by rw [List.map_map]; rfl]
      refine ⟨_, allI_pN _, by simpa using ne, ?_⟩
      rw [mnk k hk]; exact k1
    refine ⟨by omega, ?_⟩
    refine lc_encM (encR 0) (fun k => pN (hiL ms (ownL row ms ++ L) k)) (fun i k hk kk k1 => ?_) (by simp; omega) ?_
    · obtain ⟨rfl, hk⟩ := range_get hk
      have hk : k < row.length := by simpa using hk
      simp [lcStep, -lcGo]
      refine inner hk rfl (by simp) ?_
      rw [show (M.map fun w => pN (fnOf (cntsL 0 w) k)) = (M.map fun w => fnOf (cntsL 0 w) k).map pN by rw [List.map_map]; rfl]
      refine ⟨_, allI_pN _, by simpa using ne, ?_⟩
      rw [mxk k hk]; exact k1
    have e1 : ((List.range row.length).map fun k => pN (loL ms (ownL row ms ++ L) k)) = (loC row ms L).map pN := by unfold loC csLoL; rw [List.map_map]; rfl
    have e2 : ((List.range row.length).map fun k => pN (hiL ms (ownL row ms ++ L) k)) = (hiC row ms L).map pN := by unfold hiC csHiL; rw [List.map_map]; rfl
    rw [e1, e2]
    refine ⟨by omega, ?_⟩
    refine lc_encM (encR 0) (fun k => .tuple [pN (loL ms (ownL row ms ++ L) k), pN (hiL ms (ownL row ms ++ L) k)]) (fun i k hk kk k1 => ?_) (by simp; omega) ?_
    · obtain ⟨rfl, hk⟩ := range_get hk
      have hk : k < row.length := by simpa using hk
      simp [lcStep]
      exact ⟨_, lo_at hk, _, hi_at hk, by simpa using k1⟩
    have ok : ∀ cs ∈ [loC row ms L, hiC row ms L], CntOk row.length cs ∧ MeetW row ms L (wordC row.length 0 cs) := fun cs hc => by
      simp only [List.mem_cons, List.not_mem_nil, or_false] at hc
      rcases hc with rfl | rfl
      · exact ⟨csLoL_ok o, lo_word H o⟩
      · exact ⟨csHiL_ok, hi_word H o⟩
    simp [-lcGo, -forGo]
    refine for_enc (fun cs : List Nat => PyData.list (cs.map pN)) (L := [loC row ms L, hiC row ms L]) (fun i ρ => ∃ (s7 : VL.Slot), ρ = [.shr (.py (tI row)), .shr (.py (tN ms)), .shr (.py (.tuple (L.map demD))), .shr (.py (.list (M.map (allP row)))), .shr (.py (.list ((loC row ms L).map pN))), .shr (.py (.list ((hiC row ms L).map pN))), .own (.py (.list (rangesP row ms L :: (([loC row ms L, hiC row ms L] : List (List Nat)).take i).map fun cs => .str (mkS (wordC row.length 0 cs))))), s7, .un, .un, .un, .un, .un]) ⟨_, rfl⟩ (fun i cs ρ hc iv nx ct hn => ?_) (fun ρ iv => ?_)
    · obtain ⟨s7, rfl⟩ := iv
      obtain ⟨hk, hm⟩ := ok cs (List.mem_of_getElem? hc)
      have hi : i < 2 := (List.getElem?_eq_some_iff.mp hc).1
      have go := (hn _ ⟨.shr (.py (.list (cs.map pN))), rfl⟩).1
      rw [take_succ_get hc, List.map_append] at go
      simp [-lcGo]
      refine lc_encF' (allP row) (fun w => decide (cntsL 0 w = cs)) (fun w => .str (mkS w)) (fun i w hw kk k1 k2 => ?_) (by omega) ?_
      · simp [lcStep, allP]
        refine geq_tN (a := cntsL 0 w) (b := cs) ?_
        cases e : decide (cntsL 0 w = cs) with
        | true => exact k1 e
        | false => exact k2 e
      · have hf : ∃ l, M.filter (fun w => decide (cntsL 0 w = cs)) = wordC row.length 0 cs :: l := by
          have hmem : wordC row.length 0 cs ∈ M.filter (fun w => decide (cntsL 0 w = cs)) := List.mem_filter.mpr ⟨(hM _).mpr hm, by rw [hk.cnts]; simp⟩
          cases e : M.filter (fun w => decide (cntsL 0 w = cs)) with
          | nil => rw [e] at hmem; cases hmem
          | cons a l =>
            have ha : a ∈ M.filter (fun w => decide (cntsL 0 w = cs)) := by rw [e]; exact List.mem_cons_self
            obtain ⟨a1, a2⟩ := List.mem_filter.mp ha
            rw [decide_eq_true_eq] at a2
            have := ((hM a).mp a1).h.word
            rw [a2] at this
            exact ⟨l, by rw [this]⟩
        obtain ⟨l, hf⟩ := hf
        rw [hf]
        simp
        refine ⟨by omega, ?_⟩
        simpa using go
    · obtain ⟨s7, rfl⟩ := iv
      simp
      exact q
  · rw [due_shut o] at q
    have e : M = [] := List.eq_nil_iff_forall_not_mem.mpr fun w hw => o (meetW_between H ((hM w).mp hw)).1
    subst e
    simp
    exact q
/-! ### the law -/
theorem word_sw {n : Nat} {w : List Nat} (hl : n ≤ 40) (h : HistW n w) : Sw 4000 4 (.str (mkS w)) := (sw_mkS (n := 80) (by have := h.len; omega) fun c hc => by rcases goodW_let h c hc with e | e <;> omega).mono (by omega) (by omega)
theorem arr_sw {row : List Int} {ms : List Nat} {L : List Dem} (hl : row.length ≤ 40) : Sw 4000 4 (arrP row ms L) := by
  unfold arrP
  by_cases o : OpenD ms (ownL row ms ++ L) row.length
  · rw [if_pos o]
    refine ((Sw.map (w := 82) (d := 3) (n := 40) (f := fun k => PyData.tuple [pN (loL ms (ownL row ms ++ L) k), pN (hiL ms (ownL row ms ++ L) k)]) (fun k hk => ?_) (by simpa using hl)).1).mono (by omega) (by omega)
    have hk := List.mem_range.mp hk
    have h1 := o k hk
    have h2 := hiL_self (ms := ms) (L := ownL row ms ++ L) (k := k)
    exact (Sw.pN (by omega)).t2 (Sw.pN (by omega))
  · rw [if_neg o]; exact Sw.none.mono (by omega) (by omega)
theorem mw_sw {row : List Int} {ms : List Nat} {L : List Dem} {b : Bool} (H : Hd row ms L) : Sw 4000 4 (mwP row ms L b) := by
  unfold mwP
  by_cases o : OpenD ms (ownL row ms ++ L) row.length
  · rw [if_pos o]
    cases b with
    | true => exact word_sw H.hl (hi_word H o).h
    | false => exact word_sw H.hl (lo_word H o).h
  · rw [if_neg o]; exact Sw.none.mono (by omega) (by omega)
theorem due_sw {row : List Int} {ms : List Nat} {L : List Dem} (H : Hd row ms L) : ReprOk (dueP row ms L) :=
  (Sw.lst (w := 4000) (d := 4) (n := 3) (fun p hp => by
    simp only [List.mem_cons, List.not_mem_nil, or_false] at hp
    rcases hp with rfl | rfl | rfl
    · exact arr_sw H.hl
    · exact mw_sw H
    · exact mw_sw H) (by simp)).repr
theorem due_plain {row : List Int} {ms : List Nat} {L : List Dem} : (dueP row ms L).plain = true ∧ (dueP row ms L).depth ≤ 60 := by
  have pr : ∀ l : List Nat, PyData.plainAll (l.map fun k => PyData.tuple [pN (loL ms (ownL row ms ++ L) k), pN (hiL ms (ownL row ms ++ L) k)]) = true ∧ PyData.depthAll (l.map fun k => PyData.tuple [pN (loL ms (ownL row ms ++ L) k), pN (hiL ms (ownL row ms ++ L) k)]) ≤ 1 := by
    intro l
    induction l with
    | nil => exact ⟨rfl, Nat.zero_le _⟩
    | cons k l ih =>
      obtain ⟨a, b⟩ := ih
      rw [List.map_cons]
      constructor
      · show (PyData.plain (.tuple [pN _, pN _]) && PyData.plainAll _) = true
        rw [a]; rfl
      · show max (PyData.depth (.tuple [pN _, pN _])) (PyData.depthAll _) ≤ 1
        exact Nat.max_le.mpr ⟨Nat.le_of_eq rfl, b⟩
  by_cases o : OpenO row ms L
  · rw [due_open o]
    obtain ⟨a, b⟩ := pr (List.range row.length)
    unfold rangesP
    simp only [PyData.plain, PyData.plainAll, PyData.depth, PyData.depthAll, a, Bool.and_self]
    exact ⟨trivial, by omega⟩
  · rw [due_shut o]; decide
def tail40 : VS :=
  (sSeq (sFor (iR1 (vCons (vC (.py (.int 2))) vNil)) (tgName 8)
    (sSeq (sSetN 9 (vLst (vCons (vCall S_arrival_ranges (vCons (vVar 3) (vCons (vBin gIx (vBor 4) (vC (.py (.int 2)))) (vCons (vVar 5) vNil)))) (vCons (vCall (svW (.bool false) S_meeting_word) (vCons (vVar 3) (vCons (vBin gIx (vBor 4) (vC (.py (.int 2)))) (vCons (vVar 5) vNil)))) vNil))))
    (sSeq (sMut 9 gApp (vCons (vCallW S_meeting_word (vCons (vVar 3) (vCons (vBin gIx (vBor 4) (vC (.py (.int 2)))) (vCons (vVar 5) vNil))) (vC (.py (.bool true)))) vNil))
    (sSeq (sIf (vTst (vBin gNe (vCal gRepr (vCons (vBor 9) vNil)) (vCal gRepr (vCons (vBor 7) vNil))))
    (sRet (vC (.py (.bool false))))
    sNext)
    (sIf (vTst (vBin gNe (vCal gRepr (vCons (vCallW S_meeting_word (vCons (vVar 3) (vCons (vBin gIx (vBor 4) (vC (.py (.int 2)))) (vCons (vVar 5) vNil))) (vC (.py (.bool false)))) vNil)) (vCal gRepr (vCons (vBin gIx (vBor 7) (vC (.py (.int 1)))) vNil))))
    (sRet (vC (.py (.bool false))))
    sNext)))))
    (sIf (vTst (vBin gNe (vCal gRepr (vCons (vLst (vCons (vVar 3) (vCons (vVar 4) (vCons (vVar 5) vNil)))) vNil)) (vBor 6)))
    (sRet (vC (.py (.bool false))))
    sNext))
theorem tail_ok {r : Addr} {row : List Int} {w : List Nat} {L : List Dem} {s2 s8 s9 : VL.Slot} {De : VEnds} (hr : Sw 1640 3 (tI row)) (hw : HistW row.length w) (H : Hd row (ordL row w) L)
    (k : ∀ s8 s9, De.nx [.un, .shr (.raw (.ref r)), s2, .shr (.py (tI row)), .shr (.py (evtP row w)), .shr (.py (.tuple (L.map demD))), .shr (.py (.str (PyData.list [tI row, evtP row w, .tuple (L.map demD)]).shown)), .shr (.py (dueP row (ordL row w) L)), s8, s9]) :
    tail40 [.un, .shr (.raw (.ref r)), s2, .shr (.py (tI row)), .shr (.py (evtP row w)), .shr (.py (.tuple (L.map demD))), .shr (.py (.str (PyData.list [tI row, evtP row w, .tuple (L.map demD)]).shown)), .shr (.py (dueP row (ordL row w) L)), s8, s9] De := by
  have rs := rsp_sw H.hl hr hw (by have := H.hL; omega) H.hv
  have rd := due_sw H
  have od : ∀ {G : List Nat → List Dem → Prop} {E : Er → Prop}, G (ordL row w) L → ordDem row (tN (ordL row w)) (.tuple (L.map demD)) E G := fun g => ordDem_of H.h0 H.hl H.hp H.po H.hL H.hv g
  simp [tail40, -forGo, -S_arrival_ranges, -S_meeting_word]
  refine ⟨by decide, ?_⟩
  rw [rangeP_eq]
  refine for_enc (encR 0) (fun _ ρ => ∃ (s8 s9 : VL.Slot), ρ = [.un, .shr (.raw (.ref r)), s2, .shr (.py (tI row)), .shr (.py (evtP row w)), .shr (.py (.tuple (L.map demD))), .shr (.py (.str (PyData.list [tI row, evtP row w, .tuple (L.map demD)]).shown)), .shr (.py (dueP row (ordL row w) L)), s8, s9]) ⟨_, _, rfl⟩ (fun i x ρ hx iv nx ct hn => ?_) (fun ρ iv => ?_)
  · obtain ⟨s8, s9, rfl⟩ := iv
    have ev2 : ∀ Q' : D → Prop, Q' (.py (tN (ordL row w))) → gIx (.py (evtP row w)) (.py (.int 2)) Q' := fun Q' h => by
      show ∃ d, atI [PyData.list _, PyData.list _, tN (ordL row w)] 2 = some d ∧ _
      exact ⟨_, rfl, h⟩
    have dv1 : ∀ Q' : D → Prop, Q' (.py (mwP row (ordL row w) L false)) → gIx (.py (dueP row (ordL row w) L)) (.py (.int 1)) Q' := fun Q' h => by
      show ∃ d, atI [arrP row (ordL row w) L, mwP row (ordL row w) L false, mwP row (ordL row w) L true] 1 = some d ∧ _
      exact ⟨_, rfl, h⟩
    have rm : ReprOk (mwP row (ordL row w) L false) := (mw_sw H).repr
    simp [-S_arrival_ranges, -S_meeting_word, -gIx]
    refine ev2 _ ⟨row, _, _, rfl, od ?_⟩
    refine ev2 _ ⟨row, _, _, _, rfl, od ?_⟩
    refine ⟨by show 2 ≤ 16777216; decide, ?_⟩
    refine ev2 _ ⟨row, _, _, _, rfl, od ?_⟩
    refine ⟨by show 2 < 16777216; decide, rd, rd, ?_⟩
    rw [if_pos (by rfl)]
    refine ev2 _ ⟨row, _, _, _, rfl, od ?_⟩
    refine ⟨rm, dv1 _ ⟨rm, ?_⟩⟩
    simp [PyData.plain, PyData.depth, PyData.eqv]
    exact (hn _ ⟨_, _, rfl⟩).1
  · obtain ⟨s8, s9, rfl⟩ := iv
    simp
    exact ⟨rs, k _ _⟩
theorem l_law (r : Addr) : t_law (S_g_row r) S_g_events (S_g_word r) (S_g_demands r) S_law_due_far S_law_due S_arrival_ranges S_meeting_word (envBag 10 1 r) (fin isTrue' noE) := by
  have e0 : envBag 10 1 r = [.un, .shr (.raw (.ref r)), .un, .un, .un, .un, .un, .un, .un, .un] := rfl
  rw [e0]
  simp only [t_law, sSeq, sFor, iR1, vCons, vC, vNil, asR1]
  refine ⟨by decide, for_enc (encR 0) (fun _ ρ => ∃ (s2 s3 s4 s5 s6 s7 s8 s9 : VL.Slot), ρ = [.un, .shr (.raw (.ref r)), s2, s3, s4, s5, s6, s7, s8, s9]) ⟨_, _, _, _, _, _, _, _, rfl⟩ (fun i x ρ hx iv nx ct hn => ?_) (fun ρ iv => ?_)⟩
  · obtain ⟨s2, s3, s4, s5, s6, s7, s8, s9, rfl⟩ := iv
    obtain ⟨rfl, hx⟩ := range_get hx
    have hd : ∃ m k : Int, atI [PyData.int 5, PyData.int 40] ((x : Int) % 2) = some (.int m) ∧ 1 ≤ m ∧ m ≤ 40 ∧ atI [PyData.int 5, PyData.int 30] ((x : Int) % 2) = some (.int k) ∧ 0 ≤ k ∧ k ≤ 30 := by
      have : (x : Int) % 2 = 0 ∨ (x : Int) % 2 = 1 := by omega
      rcases this with e | e <;> rw [e]
      · exact ⟨5, 5, rfl, by omega, by omega, rfl, by omega, by omega⟩
      · exact ⟨40, 30, rfl, by omega, by omega, rfl, by omega, by omega⟩
    obtain ⟨m, kk, hm, m0, m1, hk, k0, k1⟩ := hd
    simp [-forGo, -lcGo, hm, hk, -S_g_row, -S_g_word, -S_g_events, -S_g_demands, -S_law_due_far, -S_law_due, -S_arrival_ranges, -S_meeting_word]
    obtain ⟨kn, rfl⟩ : ∃ n : Nat, kk = n := ⟨kk.toNat, by omega⟩
    refine ⟨rfl, m0, m1, fun row g0 g1 g2 => ?_⟩
    have gl : row.length ≤ 40 := by omega
    have gp : 0 < row.length := List.length_pos_iff.mpr g0
    have gsw : Sw 1640 3 (tI row) := Sw.tI (n := 40) (fun g hg => by have := g2 g hg; omega) gl
    simp [-forGo, -lcGo, -S_g_word, -S_g_events, -S_g_demands, -S_law_due_far, -S_law_due, -S_arrival_ranges, -S_meeting_word]
    refine ⟨row.length, rfl, gl, fun w hw => ?_⟩
    refine ⟨row, w, rfl, gl, hw, ?_⟩
    refine ⟨row, w, kn, rfl, g0, gl, by omega, hw, fun L hLk hv => ?_⟩
    have H : Hd row (ordL row w) L := ⟨g0, gl, ordL_perm hw, hist_poss hw, by omega, hv⟩
    have rs := rsp_sw gl gsw hw (by omega) hv
    simp [-forGo, -lcGo, -S_law_due_far, -S_law_due, -S_arrival_ranges, -S_meeting_word]
    refine ⟨rs, ?_⟩
    show ∃ d, atI [PyData.list _, PyData.list _, tN (ordL row w)] (2 : Int) = some d ∧ _
    refine ⟨_, rfl, ?_⟩
    refine ⟨row, ordL row w, L, rfl, H, ?_⟩
    have go := fun s8 s9 => tail_ok (r := r) (s2 := .shr (.py (.int (x : Nat)))) (s8 := s8) (s9 := s9) (De := { nx := nx, rt := isTrue', bk := fun ρ' => True, ct := ct, ex := fun x => noE }) gsw hw H fun s8 s9 => (hn _ ⟨_, _, _, _, _, _, _, _, rfl⟩).1
    by_cases c6 : row.length < 6
    · simp [-forGo, -lcGo, -S_law_due, -S_arrival_ranges, -S_meeting_word]
      rw [if_pos (by omega)]
      show ∃ d, atI [PyData.list _, PyData.list _, tN (ordL row w)] (2 : Int) = some d ∧ _
      refine ⟨_, rfl, row, ordL row w, L, rfl, H, by omega, ?_⟩
      have hpl := (due_plain (row := row) (ms := ordL row w) (L := L))
      have he := PySem.SeqAt.eqv_refl_plain (dueP row (ordL row w) L) hpl.1
      show PyData.plain (dueP row (ordL row w) L) = true ∧ PyData.plain (dueP row (ordL row w) L) = true ∧ (PyData.depth (dueP row (ordL row w) L) ≤ 60 ∨ PyData.depth (dueP row (ordL row w) L) ≤ 60) ∧ ((!PyData.eqv (dueP row (ordL row w) L) (dueP row (ordL row w) L)) = false ∧ _)
      refine ⟨hpl.1, hpl.1, .inl hpl.2, by rw [he]; rfl, ?_⟩
      have := go s8 s9
      simpa [tail40, -forGo, -S_arrival_ranges, -S_meeting_word] using this
    · simp [-forGo, -lcGo, -S_law_due, -S_arrival_ranges, -S_meeting_word]
      rw [if_neg (by omega)]
      have := go s8 s9
      simpa [tail40, -forGo, -S_arrival_ranges, -S_meeting_word] using this
  · obtain ⟨s2, s3, s4, s5, s6, s7, s8, s9, rfl⟩ := iv
    simp
end LawP
set_option Elab.async false
set_option linter.all false
set_option maxRecDepth 100000
set_option maxHeartbeats 4000000
namespace LawP
open PySem PySem.Spec PyProof.Rows L2 VL
abbrev topS (i : Nat) : Stmt := PySem.Challenge.pw_matesline_k40_ranges_and_words.main.body.getD i (.Pass ⟨0, 0, 0, 0⟩)
section
variable {P : Program} {w : World} {K : PySem.W.Frag} {mg : Str → Option Value} {base : Heap} {b : Bg} {f : Addr} {fd : FuncData}
abbrev s_BadDemand : Stmt := clsDef (topS 6) 0
theorem sc_BadDemand : FnScope ["self", "index"] ["self", "index"] (defScope s_BadDemand) := ⟨rfl, rfl, rfl, by decide +kernel, rfl, by decide +kernel, by decide +kernel⟩
theorem wi_BadDemand {fa : Addr} (F : Fun K "__init__" "BadDemand.__init__" s_BadDemand fa fd) : FnOk P w K mg base (L2.CX P w) 1 fa fd ["self", "index"] (spInit K "index") := ok_init F sc_BadDemand rfl rfl rfl (by decide) (by decide)
abbrev s_g_row : Stmt := topS 29
abbrev N_g_row : List Str := ["_law_gear_here", "_law_upto", "_law_count", "_law_way", "_law_found", "_law_person", "_law_some"]
theorem sc_g_row : FnScope N_g_row ["_law_gear_here", "_law_upto"] (defScope s_g_row) := ⟨rfl, rfl, rfl, by decide +kernel, rfl, by decide +kernel, by decide +kernel⟩
theorem w_g_row {S : SV} {S_law_tooth : SV} (F : Fun K "_law_row" "_law_row" s_g_row f fd) (F_law_tooth : Cal P w K mg base b 1 "_law_tooth" ["_law_gear_here", "_law_many"] S_law_tooth) (n_range : mg "range" = none) (n_tuple : mg "tuple" = none) (hlen : ∀ ds Q E, S ds Q E → ds.length = 2)
    (law : ∀ ds Q E, S ds Q E → t_g_row S_law_tooth (envOf 7 ds) (fin Q E)) : FnOk P w K mg base (L2.CX P w) 2 f fd ["_law_gear_here", "_law_upto"] (spV b S) := by
  refine fnV F sc_g_row hlen (by decide) (fun cdv A outer s H E hr tk => ?_) law
  exact (vs_cons (vs_par2 (i := 2) (j := 3) rfl sc_g_row.nd rfl rfl (by decide) rfl rfl (vm_sh (ve_add (VE.toX ve_int) (VE.toX (ve_cal F_law_tooth hr tk (by rfl) (va_cons (ve_var (pv 0)) (va_cons (ve_var (pv 1)) va_nil))))) (vm_sh (ve_cal F_law_tooth hr tk (by rfl) (va_cons (ve_var (pv 0)) (va_cons ve_int va_nil))) vm_nil)) (by rfl))
      (vs_cons (vs_asgN (i := 4) sc_g_row.nd rfl (.inl rfl) (vn_lst va_nil))
      (vs_cons (vs_for (passes_of rfl) rfl (vi_range1 (by rfl) n_range (vxs_cons (vx_var (pv 2)) vxs_nil)) (vg_name (i := 5) sc_g_row.nd rfl (.inl rfl))
      (vs_cons (vs_asg (i := 6) sc_g_row.nd rfl (.inl rfl) (VN.toE (vn_lst (va_cons ve_int (va_cons (ve_cal F_law_tooth hr tk (by rfl) (va_cons (ve_var (pv 0)) (va_cons ve_int va_nil))) (va_cons (ve_cal F_law_tooth hr tk (by rfl) (va_cons (ve_var (pv 0)) (va_cons (ve_add (VE.toX ve_int) (VE.toX (ve_fdiv (vx_var (pv 2)) (VE.toX ve_int)))) va_nil))) (va_cons (ve_var (pv 5)) (va_cons (ve_sub (VE.toX (ve_pow (VE.toX ve_int) (VE.toX ve_int))) (VE.toX (ve_cal F_law_tooth hr tk (by rfl) (va_cons (ve_var (pv 0)) (va_cons ve_int va_nil))))) va_nil))))))))
      (vs_one (vs_app (pv 4) (va_cons (ve_ix (vx_var (pv 6)) (vx_var (pv 3))) va_nil)))))
      (vs_one (vs_ret (ve_tupleC (by rfl) n_tuple (vxs_cons (vx_var (pv 4)) vxs_nil)))))))
abbrev s_g_events : Stmt := topS 31
abbrev N_g_events : List Str := ["_law_row_here", "_law_word_here", "_law_queue", "_law_arrived", "_law_served", "_law_order", "_law_number", "_law_letter", "_law_person", "_law_kin", "_law_spot", "_law_one"]
theorem sc_g_events : FnScope N_g_events ["_law_row_here", "_law_word_here"] (defScope s_g_events) := ⟨rfl, rfl, rfl, by decide +kernel, rfl, by decide +kernel, by decide +kernel⟩
theorem w_g_events {S : SV} (F : Fun K "_law_events" "_law_events" s_g_events f fd) (n_len : mg "len" = none) (n_enumerate : mg "enumerate" = none) (n_tuple : mg "tuple" = none) (hlen : ∀ ds Q E, S ds Q E → ds.length = 2)
    (law : ∀ ds Q E, S ds Q E → t_g_events (envOf 12 ds) (fin Q E)) : FnOk P w K mg base (L2.CX P w) 1 f fd ["_law_row_here", "_law_word_here"] (spV b S) := by
  refine fnV F sc_g_events hlen (by decide) (fun cdv A outer s H E hr tk => ?_) law
  have hu := hr.units
  exact (vs_cons (vs_parT (is := [2, 3, 4, 5]) rfl (pgs_cons (pg_name (i := 2) sc_g_events.nd rfl (.inl rfl)) (pgs_cons (pg_name (i := 3) sc_g_events.nd rfl (.inl rfl)) (pgs_cons (pg_name (i := 4) sc_g_events.nd rfl (.inl rfl)) (pgs_cons (pg_name (i := 5) sc_g_events.nd rfl (.inl rfl)) pgs_nil)))) (vm_nw (vn_lst va_nil) (vm_nw (vn_lst va_nil) (vm_nw (vn_mul (VN.toX (vn_lst (va_cons ve_int va_nil))) (VE.toX (ve_len (by rfl) n_len (vxs_cons (vx_var (pv 0)) vxs_nil)))) (vm_nw (vn_lst va_nil) vm_nil)))))
      (vs_cons (vs_for (passes_of rfl) rfl (vi_enum (by rfl) n_enumerate (va_cons (ve_var (pv 1)) va_nil)) (vg_tup rfl (vgs_cons (vg_name (i := 6) sc_g_events.nd rfl (.inl rfl)) (vgs_cons (vg_name (i := 7) sc_g_events.nd rfl (.inl rfl)) vgs_nil)))
      (vs_one (vs_if (vt_eq hu (vx_var (pv 7)) (VE.toX ve_str))
      (vs_cons (vs_asg (i := 8) sc_g_events.nd rfl (.inr rfl) (ve_len (by rfl) n_len (vxs_cons (vx_var (pv 3)) vxs_nil)))
      (vs_cons (vs_setLcE (i := 9) (own := [("_law_one", 11)]) rfl sc_g_events.nd rfl rfl (by rfl) (vib_src (vx_var (pv 2))) (blkOk_by (N := N_g_events) (sc := defScope s_g_events) (by decide +kernel)) (by decide) (fun _ _ _ _ _ => (vg_name (i := 11) sc_g_events.nd rfl (.inl rfl))) (fun _ _ _ _ _ => (vts_one (vt_eq hu (VE.toX (ve_ix (vx_var (pv 0)) (vx_var (pv 11)))) (VE.toX (ve_ix (vx_var (pv 0)) (vx_var (pv 8))))))) (fun _ _ _ _ _ => (ve_var (pv 11))))
      (vs_cons (vs_asg (i := 10) sc_g_events.nd rfl (.inl rfl) (ve_if (vt_ne hu (vx_var (pv 9)) (VN.toX (vn_lst va_nil))) (ve_add (VE.toX (ve_mth (mx_index (hu65 hr)) (vx_var (pv 2)) (vxs_cons (VE.toX (ve_ix (vx_var (pv 9)) (VE.toX (ve_neg (VE.toX ve_int))))) vxs_nil))) (VE.toX ve_int)) (ve_len (by rfl) n_len (vxs_cons (vx_var (pv 2)) vxs_nil))))
      (vs_cons (vs_ins (pv 2) (va_cons (ve_var (pv 10)) (va_cons (ve_var (pv 8)) va_nil)))
      (vs_one (vs_app (pv 3) (va_cons (ve_var (pv 6)) va_nil)))))))
      (vs_cons (vs_popSet (i := 8) sc_g_events.nd rfl (.inr rfl) (pv 2) ve_int)
      (vs_cons (vs_stoL (pv 4) (ve_var (pv 8)) (ve_var (pv 6)))
      (vs_one (vs_app (pv 5) (va_cons (ve_var (pv 8)) va_nil))))))))
      (vs_one (vs_frz 4 (vs_frz 3 (vs_ret (VN.toE (vn_lst (va_cons (ve_var (pv 3)) (va_cons (ve_var (pv 4)) (va_cons (ve_tupleC (by rfl) n_tuple (vxs_cons (vx_var (pv 5)) vxs_nil)) va_nil)))))))))))
abbrev s_g_demand : Stmt := topS 36
abbrev N_g_demand : List Str := ["_law_gear_here", "_law_row_here", "_law_kind"]
theorem sc_g_demand : FnScope N_g_demand ["_law_gear_here", "_law_row_here"] (defScope s_g_demand) := ⟨rfl, rfl, rfl, by decide +kernel, rfl, by decide +kernel, by decide +kernel⟩
theorem w_g_demand {S : SV} {S_law_tooth : SV} (F : Fun K "_law_demand" "_law_demand" s_g_demand f fd) (F_law_tooth : Cal P w K mg base b 1 "_law_tooth" ["_law_gear_here", "_law_many"] S_law_tooth) (n_len : mg "len" = none) (hlen : ∀ ds Q E, S ds Q E → ds.length = 2)
    (law : ∀ ds Q E, S ds Q E → t_g_demand S_law_tooth (envOf 3 ds) (fin Q E)) : FnOk P w K mg base (L2.CX P w) 2 f fd ["_law_gear_here", "_law_row_here"] (spV b S) := by
  refine fnV F sc_g_demand hlen (by decide) (fun cdv A outer s H E hr tk => ?_) law
  exact (vs_cons (vs_asg (i := 2) sc_g_demand.nd rfl (.inl rfl) (ve_ix (VN.toX (vn_lst (va_cons ve_str (va_cons ve_str va_nil)))) (VE.toX (ve_cal F_law_tooth hr tk (by rfl) (va_cons (ve_var (pv 0)) (va_cons ve_int va_nil))))))
      (vs_one (vs_ret (ve_tup (va_cons (ve_var (pv 2)) (va_cons (ve_cal F_law_tooth hr tk (by rfl) (va_cons (ve_var (pv 0)) (va_cons (ve_len (by rfl) n_len (vxs_cons (vx_var (pv 1)) vxs_nil)) va_nil))) (va_cons (ve_cal F_law_tooth hr tk (by rfl) (va_cons (ve_var (pv 0)) (va_cons (ve_len (by rfl) n_len (vxs_cons (vx_var (pv 1)) vxs_nil)) va_nil))) va_nil)))))))
abbrev s_g_meets : Stmt := topS 32
abbrev N_g_meets : List Str := ["_law_events_here", "_law_demand_here", "_law_kind", "_law_person", "_law_other"]
theorem sc_g_meets : FnScope N_g_meets ["_law_events_here", "_law_demand_here"] (defScope s_g_meets) := ⟨rfl, rfl, rfl, by decide +kernel, rfl, by decide +kernel, by decide +kernel⟩
theorem w_g_meets {S : SV} (F : Fun K "_law_meets" "_law_meets" s_g_meets f fd) (hlen : ∀ ds Q E, S ds Q E → ds.length = 2)
    (law : ∀ ds Q E, S ds Q E → t_g_meets (envOf 5 ds) (fin Q E)) : FnOk P w K mg base (L2.CX P w) 1 f fd ["_law_events_here", "_law_demand_here"] (spV b S) := by
  refine fnV F sc_g_meets hlen (by decide) (fun cdv A outer s H E hr tk => ?_) law
  have hu := hr.units
  exact (vs_cons (vs_asgT (ve_var (pv 1)) (vg_tup rfl (vgs_cons (vg_name (i := 2) sc_g_meets.nd rfl (.inl rfl)) (vgs_cons (vg_name (i := 3) sc_g_meets.nd rfl (.inl rfl)) (vgs_cons (vg_name (i := 4) sc_g_meets.nd rfl (.inl rfl)) vgs_nil)))))
      (vs_one (vs_ret (ve_eq hu (VE.toX (ve_lt (VE.toX (ve_ix (VE.toX (ve_ix (vx_var (pv 0)) (VE.toX ve_int))) (vx_var (pv 3)))) (VE.toX (ve_ix (VE.toX (ve_ix (vx_var (pv 0)) (VE.toX ve_int))) (vx_var (pv 4)))))) (VE.toX (ve_eq hu (vx_var (pv 2)) (VE.toX ve_str)))))))
abbrev s_g_demands : Stmt := topS 37
abbrev N_g_demands : List Str := ["_law_gear_here", "_law_row_here", "_law_events_here", "_law_upto", "_law_found", "_law_number", "_law_demand_here"]
theorem sc_g_demands : FnScope N_g_demands ["_law_gear_here", "_law_row_here", "_law_events_here", "_law_upto"] (defScope s_g_demands) := ⟨rfl, rfl, rfl, by decide +kernel, rfl, by decide +kernel, by decide +kernel⟩
theorem w_g_demands {S : SV} {S_law_tooth : SV} {S_g_demand : SV} {S_g_meets : SV} (F : Fun K "_law_demands" "_law_demands" s_g_demands f fd) (F_law_tooth : Cal P w K mg base b 1 "_law_tooth" ["_law_gear_here", "_law_many"] S_law_tooth) (F_g_demand : Cal P w K mg base b 2 "_law_demand" ["_law_gear_here", "_law_row_here"] S_g_demand) (F_g_meets : Cal P w K mg base b 1 "_law_meets" ["_law_events_here", "_law_demand_here"] S_g_meets) (n_range : mg "range" = none) (n_int : mg "int" = none) (n_tuple : mg "tuple" = none) (hlen : ∀ ds Q E, S ds Q E → ds.length = 4)
    (law : ∀ ds Q E, S ds Q E → t_g_demands S_law_tooth S_g_demand S_g_meets (envOf 7 ds) (fin Q E)) : FnOk P w K mg base (L2.CX P w) 3 f fd ["_law_gear_here", "_law_row_here", "_law_events_here", "_law_upto"] (spV b S) := by
  refine fnV F sc_g_demands hlen (by decide) (fun cdv A outer s H E hr tk => ?_) law
  have hu := hr.units
  exact (vs_cons (vs_asgN (i := 4) sc_g_demands.nd rfl (.inl rfl) (vn_lst va_nil))
      (vs_cons (vs_for (passes_of rfl) rfl (vi_range1 (by rfl) n_range (vxs_cons (VE.toX (ve_cal F_law_tooth hr tk (by rfl) (va_cons (ve_var (pv 0)) (va_cons (ve_add (vx_var (pv 3)) (VE.toX ve_int)) va_nil)))) vxs_nil)) (vg_name (i := 5) sc_g_demands.nd rfl (.inl rfl))
      (vs_cons (vs_asg (i := 6) sc_g_demands.nd rfl (.inl rfl) (ve_cal F_g_demand hr tk (by rfl) (va_cons (ve_var (pv 0)) (va_cons (ve_var (pv 1)) va_nil))))
      (vs_cons (vs_if (VWe.pt (vw_and (vt_not (vt_val (VE.toX (ve_cal F_g_meets hr tk (by rfl) (va_cons (ve_var (pv 2)) (va_cons (ve_var (pv 6)) va_nil)))))) (vw_and1 (vt_gt (VE.toX (ve_cal F_law_tooth hr tk (by rfl) (va_cons (ve_var (pv 0)) (va_cons ve_int va_nil)))) (VE.toX ve_int)))))
      (vs_one (vs_asg (i := 6) sc_g_demands.nd rfl (.inl rfl) (ve_tup (va_cons (ve_ix (VN.toX (vn_lst (va_cons ve_str (va_cons ve_str va_nil)))) (VE.toX (ve_intC (by rfl) n_int (vxs_cons (VE.toX (ve_eq hu (VE.toX (ve_ix (vx_var (pv 6)) (VE.toX ve_int))) (VE.toX ve_str))) vxs_nil)))) (va_cons (ve_ix (vx_var (pv 6)) (VE.toX ve_int)) (va_cons (ve_ix (vx_var (pv 6)) (VE.toX ve_int)) va_nil))))))
      vs_nil)
      (vs_one (vs_app (pv 4) (va_cons (ve_var (pv 6)) va_nil))))))
      (vs_one (vs_ret (ve_tupleC (by rfl) n_tuple (vxs_cons (vx_var (pv 4)) vxs_nil))))))
abbrev s_g_word : Stmt := topS 30
abbrev N_g_word : List Str := ["_law_gear_here", "_law_count", "_law_found", "_law_waiting", "_law_left", "_law_way", "_law_chance", "_law_soon"]
theorem sc_g_word : FnScope N_g_word ["_law_gear_here", "_law_count"] (defScope s_g_word) := ⟨rfl, rfl, rfl, by decide +kernel, rfl, by decide +kernel, by decide +kernel⟩
theorem w_g_word {S : SV} {S_law_tooth : SV} (F : Fun K "_law_word" "_law_word" s_g_word f fd) (F_law_tooth : Cal P w K mg base b 1 "_law_tooth" ["_law_gear_here", "_law_many"] S_law_tooth) (hlen : ∀ ds Q E, S ds Q E → ds.length = 2)
    (law : ∀ ds Q E, S ds Q E → t_g_word S_law_tooth (envOf 8 ds) (fin Q E)) : FnOk P w K mg base (L2.CX P w) 2 f fd ["_law_gear_here", "_law_count"] (spV b S) := by
  refine fnV F sc_g_word hlen (by decide) (fun cdv A outer s H E hr tk => ?_) law
  have hu := hr.units
  exact (vs_cons (vs_parT (is := [2, 3, 4, 5]) rfl (pgs_cons (pg_name (i := 2) sc_g_word.nd rfl (.inl rfl)) (pgs_cons (pg_name (i := 3) sc_g_word.nd rfl (.inl rfl)) (pgs_cons (pg_name (i := 4) sc_g_word.nd rfl (.inl rfl)) (pgs_cons (pg_name (i := 5) sc_g_word.nd rfl (.inl rfl)) pgs_nil)))) (vm_sh ve_str (vm_sh ve_int (vm_sh (ve_var (pv 1)) (vm_sh (ve_cal F_law_tooth hr tk (by rfl) (va_cons (ve_var (pv 0)) (va_cons ve_int va_nil))) vm_nil)))))
      (vs_cons (vs_while (passes_of rfl) (vt_gt (VE.toX (ve_add (vx_var (pv 4)) (vx_var (pv 3)))) (VE.toX ve_int))
      (vs_cons (vs_asg (i := 6) sc_g_word.nd rfl (.inl rfl) (ve_cal F_law_tooth hr tk (by rfl) (va_cons (ve_var (pv 0)) (va_cons (ve_ix (VN.toX (vn_lst (va_cons ve_int (va_cons ve_int (va_cons ve_int (va_cons ve_int va_nil)))))) (vx_var (pv 5))) va_nil))))
      (vs_cons (vs_asg (i := 7) sc_g_word.nd rfl (.inl rfl) (ve_ix (VN.toX (vn_lst (va_cons (ve_eq hu (vx_var (pv 6)) (VE.toX ve_int)) (va_cons (ve_gt (vx_var (pv 6)) (VE.toX ve_int)) (va_cons (ve_eq hu (vx_var (pv 6)) (VE.toX ve_int)) (va_cons (ve_and (VE.toX (ve_gt (vx_var (pv 3)) (VE.toX ve_int))) (ve_one (ve_eq hu (vx_var (pv 6)) (VE.toX ve_int)))) va_nil)))))) (vx_var (pv 5))))
      (vs_one (vs_if (VWe.pt (vw_and (vt_gt (vx_var (pv 3)) (VE.toX ve_int)) (vw_and1 (VWe.pt (vw_or (vt_eq hu (vx_var (pv 4)) (VE.toX ve_int)) (vw_or1 (vt_val (vx_var (pv 7)))))))))
      (vs_one (vs_par2 (i := 2) (j := 3) rfl sc_g_word.nd rfl rfl (by decide) rfl rfl (vm_sh (ve_add (vx_var (pv 2)) (VE.toX ve_str)) (vm_sh (ve_sub (vx_var (pv 3)) (VE.toX ve_int)) vm_nil)) (by rfl)))
      (vs_one (vs_par3 (i := 2) (j := 3) (k := 4) rfl sc_g_word.nd rfl rfl rfl (by decide) (by decide) (by decide) rfl rfl rfl (vm_sh (ve_add (vx_var (pv 2)) (VE.toX ve_str)) (vm_sh (ve_add (vx_var (pv 3)) (VE.toX ve_int)) (vm_sh (ve_sub (vx_var (pv 4)) (VE.toX ve_int)) vm_nil))) (by rfl))))))))
      (vs_one (vs_ret (ve_var (pv 2))))))
abbrev s_g_stairs : Stmt := topS 39
abbrev N_g_stairs : List Str := ["_law_row_here", "_law_order", "_law_demands_here", "_law_places", "_law_count", "_law_low", "_law_high", "_law_person", "_law_kin", "_law_ahead", "_law_near", "_law_kind", "_law_other", "_law_least", "_law_greatest", "_law_one"]
theorem sc_g_stairs : FnScope N_g_stairs ["_law_row_here", "_law_order", "_law_demands_here"] (defScope s_g_stairs) := ⟨rfl, rfl, rfl, by decide +kernel, rfl, by decide +kernel, by decide +kernel⟩
theorem w_g_stairs {S : SV} (F : Fun K "_law_stairs" "_law_stairs" s_g_stairs f fd) (n_len : mg "len" = none) (n_range : mg "range" = none) (n_min : mg "min" = none) (n_max : mg "max" = none) (hlen : ∀ ds Q E, S ds Q E → ds.length = 3)
    (law : ∀ ds Q E, S ds Q E → t_g_stairs (envOf 16 ds) (fin Q E)) : FnOk P w K mg base (L2.CX P w) 1 f fd ["_law_row_here", "_law_order", "_law_demands_here"] (spV b S) := by
  refine fnV F sc_g_stairs hlen (by decide) (fun cdv A outer s H E hr tk => ?_) law
  have hu := hr.units
  exact (vs_cons (vs_parT (is := [3, 4]) rfl (pgs_cons (pg_name (i := 3) sc_g_stairs.nd rfl (.inr rfl)) (pgs_cons (pg_name (i := 4) sc_g_stairs.nd rfl (.inl rfl)) pgs_nil)) (vm_sh (VN.toE (vn_lc (own := [("_law_person", 7)]) rfl sc_g_stairs.nd (vib_range1 (by rfl) n_range (vxs_cons (VE.toX (ve_len (by rfl) n_len (vxs_cons (vx_var (pv 0)) vxs_nil))) vxs_nil)) (blkOk_by (N := N_g_stairs) (sc := defScope s_g_stairs) (by decide +kernel)) (by decide) (fun _ _ _ _ _ => (vg_name (i := 7) sc_g_stairs.nd rfl (.inl rfl))) (fun _ _ _ _ _ => vts_nil) (fun _ _ _ _ _ => (ve_mth (mx_index (hu65 hr)) (vx_var (pv 1)) (vxs_cons (vx_var (pv 7)) vxs_nil))))) (vm_sh (ve_len (by rfl) n_len (vxs_cons (vx_var (pv 0)) vxs_nil)) vm_nil)))
      (vs_cons (vs_parT (is := [5, 6]) rfl (pgs_cons (pg_name (i := 5) sc_g_stairs.nd rfl (.inr rfl)) (pgs_cons (pg_name (i := 6) sc_g_stairs.nd rfl (.inr rfl)) pgs_nil)) (vm_nw (vn_mul (VN.toX (vn_lst (va_cons ve_int va_nil))) (vx_var (pv 4))) (vm_nw (vn_lc (own := [("_law_person", 7)]) rfl sc_g_stairs.nd (vib_range1 (by rfl) n_range (vxs_cons (vx_var (pv 4)) vxs_nil)) (blkOk_by (N := N_g_stairs) (sc := defScope s_g_stairs) (by decide +kernel)) (by decide) (fun _ _ _ _ _ => (vg_name (i := 7) sc_g_stairs.nd rfl (.inl rfl))) (fun _ _ _ _ _ => vts_nil) (fun _ _ _ _ _ => (ve_ix (vx_var (pv 3)) (vx_var (pv 7))))) vm_nil)))
      (vs_cons (vs_for (passes_of rfl) rfl (vi_range1 (by rfl) n_range (vxs_cons (vx_var (pv 4)) vxs_nil)) (vg_name (i := 7) sc_g_stairs.nd rfl (.inr rfl))
      (vs_cons (vs_setLcE (i := 8) (own := [("_law_one", 15)]) rfl sc_g_stairs.nd rfl rfl (by rfl) (vib_range1 (by rfl) n_range (vxs_cons (vx_var (pv 7)) vxs_nil)) (blkOk_by (N := N_g_stairs) (sc := defScope s_g_stairs) (by decide +kernel)) (by decide) (fun _ _ _ _ _ => (vg_name (i := 15) sc_g_stairs.nd rfl (.inl rfl))) (fun _ _ _ _ _ => (vts_one (vt_eq hu (VE.toX (ve_ix (vx_var (pv 0)) (vx_var (pv 15)))) (VE.toX (ve_ix (vx_var (pv 0)) (vx_var (pv 7))))))) (fun _ _ _ _ _ => (ve_var (pv 15))))
      (vs_cons (vs_asg (i := 9) sc_g_stairs.nd rfl (.inl rfl) (ve_eq hu (VN.toX (vn_lc (own := [("_law_one", 15)]) rfl sc_g_stairs.nd (vib_range1 (by rfl) n_range (vxs_cons (vx_var (pv 7)) vxs_nil)) (blkOk_by (N := N_g_stairs) (sc := defScope s_g_stairs) (by decide +kernel)) (by decide) (fun _ _ _ _ _ => (vg_name (i := 15) sc_g_stairs.nd rfl (.inl rfl))) (fun _ _ _ _ _ => (vts_one (vt_gt (VE.toX (ve_ix (vx_var (pv 3)) (vx_var (pv 15)))) (VE.toX (ve_ix (vx_var (pv 3)) (vx_var (pv 7))))))) (fun _ _ _ _ _ => (ve_var (pv 15))))) (VN.toX (vn_lst va_nil))))
      (vs_cons (vs_asg (i := 10) sc_g_stairs.nd rfl (.inl rfl) (ve_and (VE.toX (ve_ne hu (vx_var (pv 8)) (VN.toX (vn_lst va_nil)))) (ve_one (ve_eq hu (VE.toX (ve_ix (vx_var (pv 3)) (vx_var (pv 7)))) (VE.toX (ve_add (VE.toX (ve_ix (vx_var (pv 3)) (VE.toX (ve_ix (vx_var (pv 8)) (VE.toX (ve_neg (VE.toX ve_int))))))) (VE.toX ve_int)))))))
      (vs_cons (vs_if (VWe.pt (vw_and (vt_not (vt_val (vx_var (pv 9)))) (vw_and1 (vt_not (vt_val (vx_var (pv 10)))))))
      (vs_one (vs_ret ve_non))
      vs_nil)
      (vs_cons (vs_if (VWe.pt (vw_and (vt_val (vx_var (pv 10))) (vw_and1 (vt_not (vt_val (vx_var (pv 9)))))))
      (vs_one (vs_stoL (pv 6) (ve_var (pv 7)) (ve_min rfl (by rfl) n_min (vxs_cons (VE.toX (ve_ix (vx_var (pv 6)) (vx_var (pv 7)))) (vxs_cons (VE.toX (ve_ix (vx_var (pv 3)) (VE.toX (ve_ix (vx_var (pv 8)) (VE.toX (ve_neg (VE.toX ve_int))))))) vxs_nil)))))
      vs_nil)
      (vs_one (vs_if (VWe.pt (vw_and (vt_ne hu (vx_var (pv 8)) (VN.toX (vn_lst va_nil))) (vw_and1 (vt_not (vt_val (vx_var (pv 10)))))))
      (vs_one (vs_stoL (pv 5) (ve_var (pv 7)) (ve_add (VE.toX (ve_ix (vx_var (pv 3)) (VE.toX (ve_ix (vx_var (pv 8)) (VE.toX (ve_neg (VE.toX ve_int))))))) (VE.toX ve_int))))
      vs_nil))))))))
      (vs_cons (vs_for (passes_of rfl) rfl (vi_src (ve_var (pv 2))) (vg_tup rfl (vgs_cons (vg_name (i := 11) sc_g_stairs.nd rfl (.inl rfl)) (vgs_cons (vg_name (i := 7) sc_g_stairs.nd rfl (.inr rfl)) (vgs_cons (vg_name (i := 12) sc_g_stairs.nd rfl (.inl rfl)) vgs_nil))))
      (vs_one (vs_if (vt_eq hu (vx_var (pv 11)) (VE.toX ve_str))
      (vs_one (vs_stoL (pv 5) (ve_var (pv 7)) (ve_max rfl (by rfl) n_max (vxs_cons (VE.toX (ve_ix (vx_var (pv 5)) (vx_var (pv 7)))) (vxs_cons (VE.toX (ve_add (VE.toX (ve_ix (vx_var (pv 3)) (vx_var (pv 12)))) (VE.toX ve_int))) vxs_nil)))))
      (vs_one (vs_stoL (pv 6) (ve_var (pv 7)) (ve_min rfl (by rfl) n_min (vxs_cons (VE.toX (ve_ix (vx_var (pv 6)) (vx_var (pv 7)))) (vxs_cons (VE.toX (ve_ix (vx_var (pv 3)) (vx_var (pv 12)))) vxs_nil))))))))
      (vs_cons (vs_asg (i := 13) sc_g_stairs.nd rfl (.inr rfl) (VN.toE (vn_lc (own := [("_law_person", 7)]) rfl sc_g_stairs.nd (vib_range1 (by rfl) n_range (vxs_cons (vx_var (pv 4)) vxs_nil)) (blkOk_by (N := N_g_stairs) (sc := defScope s_g_stairs) (by decide +kernel)) (by decide) (fun _ _ _ _ _ => (vg_name (i := 7) sc_g_stairs.nd rfl (.inl rfl))) (fun _ _ _ _ _ => vts_nil) (fun _ _ _ _ _ => (ve_max rfl (by rfl) n_max (vxs_cons (VE.toX (ve_sl (vx_var (pv 5)) vo_no (vo_at (VE.toX (ve_add (vx_var (pv 7)) (VE.toX ve_int)))))) vxs_nil))))))
      (vs_cons (vs_asg (i := 14) sc_g_stairs.nd rfl (.inr rfl) (VN.toE (vn_lc (own := [("_law_person", 7)]) rfl sc_g_stairs.nd (vib_range1 (by rfl) n_range (vxs_cons (vx_var (pv 4)) vxs_nil)) (blkOk_by (N := N_g_stairs) (sc := defScope s_g_stairs) (by decide +kernel)) (by decide) (fun _ _ _ _ _ => (vg_name (i := 7) sc_g_stairs.nd rfl (.inl rfl))) (fun _ _ _ _ _ => vts_nil) (fun _ _ _ _ _ => (ve_min rfl (by rfl) n_min (vxs_cons (VE.toX (ve_sl (vx_var (pv 6)) (vo_at (vx_var (pv 7))) vo_no)) vxs_nil))))))
      (vs_cons (vs_if (vt_ne hu (VN.toX (vn_lc (own := [("_law_person", 7)]) rfl sc_g_stairs.nd (vib_range1 (by rfl) n_range (vxs_cons (vx_var (pv 4)) vxs_nil)) (blkOk_by (N := N_g_stairs) (sc := defScope s_g_stairs) (by decide +kernel)) (by decide) (fun _ _ _ _ _ => (vg_name (i := 7) sc_g_stairs.nd rfl (.inl rfl))) (fun _ _ _ _ _ => (vts_one (vt_gt (VE.toX (ve_ix (vx_var (pv 13)) (vx_var (pv 7)))) (VE.toX (ve_ix (vx_var (pv 14)) (vx_var (pv 7))))))) (fun _ _ _ _ _ => (ve_var (pv 7))))) (VN.toX (vn_lst va_nil)))
      (vs_one (vs_ret ve_non))
      vs_nil)
      (vs_one (vs_ret (VN.toE (vn_lst (va_cons (ve_var (pv 13)) (va_cons (ve_var (pv 14)) va_nil)))))))))))))
abbrev s_law_due_far : Stmt := topS 41
abbrev N_law_due_far : List Str := ["_law_row_here", "_law_order", "_law_demands_here", "_law_ends", "_law_found", "_law_counts_here", "_law_word_here", "_law_done", "_law_count", "_law_person"]
theorem sc_law_due_far : FnScope N_law_due_far ["_law_row_here", "_law_order", "_law_demands_here"] (defScope s_law_due_far) := ⟨rfl, rfl, rfl, by decide +kernel, rfl, by decide +kernel, by decide +kernel⟩
theorem w_law_due_far {S : SV} {S_g_stairs : SV} (F : Fun K "_law_due_far" "_law_due_far" s_law_due_far f fd) (F_g_stairs : Cal P w K mg base b 1 "_law_stairs" ["_law_row_here", "_law_order", "_law_demands_here"] S_g_stairs) (n_tuple : mg "tuple" = none) (n_range : mg "range" = none) (n_len : mg "len" = none) (hlen : ∀ ds Q E, S ds Q E → ds.length = 3)
    (law : ∀ ds Q E, S ds Q E → t_law_due_far S_g_stairs (envOf 10 ds) (fin Q E)) : FnOk P w K mg base (L2.CX P w) 2 f fd ["_law_row_here", "_law_order", "_law_demands_here"] (spV b S) := by
  refine fnV F sc_law_due_far hlen (by decide) (fun cdv A outer s H E hr tk => ?_) law
  exact (vs_cons (vs_asg (i := 3) sc_law_due_far.nd rfl (.inr rfl) (ve_cal F_g_stairs hr tk (by rfl) (va_cons (ve_var (pv 0)) (va_cons (ve_var (pv 1)) (va_cons (ve_var (pv 2)) va_nil)))))
      (vs_cons (vs_if (vt_isN (vx_var (pv 3)) (VE.toX ve_non))
      (vs_one (vs_ret (VN.toE (vn_lst (va_cons ve_non (va_cons ve_non (va_cons ve_non va_nil)))))))
      vs_nil)
      (vs_cons (vs_asgN (i := 4) sc_law_due_far.nd rfl (.inl rfl) (vn_lst (va_cons (ve_tupleC (by rfl) n_tuple (vxs_cons (VN.toX (vn_lc (own := [("_law_person", 9)]) rfl sc_law_due_far.nd (vib_range1 (by rfl) n_range (vxs_cons (VE.toX (ve_len (by rfl) n_len (vxs_cons (vx_var (pv 0)) vxs_nil))) vxs_nil)) (blkOk_by (N := N_law_due_far) (sc := defScope s_law_due_far) (by decide +kernel)) (by decide) (fun _ _ _ _ _ => (vg_name (i := 9) sc_law_due_far.nd rfl (.inl rfl))) (fun _ _ _ _ _ => vts_nil) (fun _ _ _ _ _ => (ve_tup (va_cons (ve_ix (VE.toX (ve_ix (vx_var (pv 3)) (VE.toX ve_int))) (vx_var (pv 9))) (va_cons (ve_ix (VE.toX (ve_ix (vx_var (pv 3)) (VE.toX ve_int))) (vx_var (pv 9))) va_nil)))))) vxs_nil)) va_nil)))
      (vs_cons (vs_for (passes_of rfl) rfl (vi_src (ve_var (pv 3))) (vg_name (i := 5) sc_law_due_far.nd rfl (.inl rfl))
      (vs_cons (vs_parT (is := [6, 7]) rfl (pgs_cons (pg_name (i := 6) sc_law_due_far.nd rfl (.inl rfl)) (pgs_cons (pg_name (i := 7) sc_law_due_far.nd rfl (.inl rfl)) pgs_nil)) (vm_sh ve_str (vm_sh ve_int vm_nil)))
      (vs_cons (vs_for (passes_of rfl) rfl (vi_src (ve_var (pv 5))) (vg_name (i := 8) sc_law_due_far.nd rfl (.inl rfl))
      (vs_one (vs_par2 (i := 6) (j := 7) rfl sc_law_due_far.nd rfl rfl (by decide) rfl rfl (vm_sh (ve_add (VE.toX (ve_add (vx_var (pv 6)) (VE.toX (ve_mulA (VE.toX ve_str) (VE.toX (ve_sub (vx_var (pv 8)) (vx_var (pv 7)))))))) (VE.toX ve_str)) (vm_sh (ve_var (pv 8)) vm_nil)) (by rfl))))
      (vs_one (vs_app (pv 4) (va_cons (ve_add (vx_var (pv 6)) (VE.toX (ve_mulA (VE.toX ve_str) (VE.toX (ve_sub (VE.toX (ve_len (by rfl) n_len (vxs_cons (vx_var (pv 0)) vxs_nil))) (vx_var (pv 7))))))) va_nil))))))
      (vs_one (vs_frz 4 (vs_ret (ve_var (pv 4)))))))))
abbrev s_g_counts : Stmt := topS 34
abbrev N_g_counts : List Str := ["_law_word_here", "_law_number", "_law_letter"]
theorem sc_g_counts : FnScope N_g_counts ["_law_word_here"] (defScope s_g_counts) := ⟨rfl, rfl, rfl, by decide +kernel, rfl, by decide +kernel, by decide +kernel⟩
theorem w_g_counts {S : SV} (F : Fun K "_law_counts" "_law_counts" s_g_counts f fd) (n_tuple : mg "tuple" = none) (n_enumerate : mg "enumerate" = none) (hlen : ∀ ds Q E, S ds Q E → ds.length = 1)
    (law : ∀ ds Q E, S ds Q E → t_g_counts (envOf 3 ds) (fin Q E)) : FnOk P w K mg base (L2.CX P w) 1 f fd ["_law_word_here"] (spV b S) := by
  refine fnV F sc_g_counts hlen (by decide) (fun cdv A outer s H E hr tk => ?_) law
  have hu := hr.units
  exact (vs_one (vs_ret (ve_tupleC (by rfl) n_tuple (vxs_cons (VN.toX (vn_lc (own := [("_law_number", 1), ("_law_letter", 2)]) rfl sc_g_counts.nd (vib_enum (by rfl) n_enumerate (vxs_cons (vx_var (pv 0)) vxs_nil)) (blkOk_by (N := N_g_counts) (sc := defScope s_g_counts) (by decide +kernel)) (by decide) (fun _ _ _ _ _ => (vg_tup rfl (vgs_cons (vg_name (i := 1) sc_g_counts.nd rfl (.inl rfl)) (vgs_cons (vg_name (i := 2) sc_g_counts.nd rfl (.inl rfl)) vgs_nil)))) (fun _ _ _ _ _ => (vts_one (vt_eq hu (vx_var (pv 2)) (VE.toX ve_str)))) (fun _ _ _ _ _ => (ve_mth mx_cnt (VE.toX (ve_sl (vx_var (pv 0)) vo_no (vo_at (vx_var (pv 1))))) (vxs_cons (VE.toX ve_str) vxs_nil))))) vxs_nil))))
abbrev s_g_all : Stmt := topS 35
abbrev N_g_all : List Str := ["_law_row_here", "_law_words", "_law_number", "_law_longer", "_law_word_here"]
theorem sc_g_all : FnScope N_g_all ["_law_row_here"] (defScope s_g_all) := ⟨rfl, rfl, rfl, by decide +kernel, rfl, by decide +kernel, by decide +kernel⟩
theorem w_g_all {S : SV} {S_g_counts : SV} {S_g_events : SV} (F : Fun K "_law_all" "_law_all" s_g_all f fd) (F_g_counts : Cal P w K mg base b 1 "_law_counts" ["_law_word_here"] S_g_counts) (F_g_events : Cal P w K mg base b 1 "_law_events" ["_law_row_here", "_law_word_here"] S_g_events) (n_range : mg "range" = none) (n_len : mg "len" = none) (n_sorted : mg "sorted" = none) (hlen : ∀ ds Q E, S ds Q E → ds.length = 1)
    (law : ∀ ds Q E, S ds Q E → t_g_all S_g_counts S_g_events (envOf 5 ds) (fin Q E)) : FnOk P w K mg base (L2.CX P w) 2 f fd ["_law_row_here"] (spV b S) := by
  refine fnV F sc_g_all hlen (by decide) (fun cdv A outer s H E hr tk => ?_) law
  have hu := hr.units
  exact (vs_cons (vs_asg (i := 1) sc_g_all.nd rfl (.inl rfl) (VN.toE (vn_lst (va_cons ve_str va_nil))))
      (vs_cons (vs_for (passes_of rfl) rfl (vi_range1 (by rfl) n_range (vxs_cons (VE.toX (ve_mulA (VE.toX ve_int) (VE.toX (ve_len (by rfl) n_len (vxs_cons (vx_var (pv 0)) vxs_nil))))) vxs_nil)) (vg_name (i := 2) sc_g_all.nd rfl (.inl rfl))
      (vs_cons (vs_asgN (i := 3) sc_g_all.nd rfl (.inl rfl) (vn_lst va_nil))
      (vs_cons (vs_for (passes_of rfl) rfl (vi_src (ve_var (pv 1))) (vg_name (i := 4) sc_g_all.nd rfl (.inl rfl))
      (vs_cons (vs_if (vt_lt (VE.toX (ve_mth mx_cnt (vx_var (pv 4)) (vxs_cons (VE.toX ve_str) vxs_nil))) (VE.toX (ve_len (by rfl) n_len (vxs_cons (vx_var (pv 0)) vxs_nil))))
      (vs_one (vs_app (pv 3) (va_cons (ve_add (vx_var (pv 4)) (VE.toX ve_str)) va_nil)))
      vs_nil)
      (vs_one (vs_if (vt_lt (VE.toX (ve_mth mx_cnt (vx_var (pv 4)) (vxs_cons (VE.toX ve_str) vxs_nil))) (VE.toX (ve_mth mx_cnt (vx_var (pv 4)) (vxs_cons (VE.toX ve_str) vxs_nil))))
      (vs_one (vs_app (pv 3) (va_cons (ve_add (vx_var (pv 4)) (VE.toX ve_str)) va_nil)))
      vs_nil))))
      (vs_one (vs_frz 3 (vs_asg (i := 1) sc_g_all.nd rfl (.inl rfl) (ve_var (pv 3))))))))
      (vs_one (vs_ret (VN.toE (vn_sortedD hu (by rfl) n_sorted (vxs_cons (VN.toX (vn_lc (own := [("_law_word_here", 4)]) rfl sc_g_all.nd (vib_src (vx_var (pv 1))) (blkOk_by (N := N_g_all) (sc := defScope s_g_all) (by decide +kernel)) (by decide) (fun _ _ _ _ _ => (vg_name (i := 4) sc_g_all.nd rfl (.inl rfl))) (fun _ _ _ _ _ => vts_nil) (fun _ _ _ _ _ => (VN.toE (vn_lst (va_cons (ve_cal F_g_counts hr takes0 (by rfl) (va_cons (ve_var (pv 4)) va_nil)) (va_cons (ve_var (pv 4)) (va_cons (ve_cal F_g_events hr takes0 (by rfl) (va_cons (ve_var (pv 0)) (va_cons (ve_var (pv 4)) va_nil))) va_nil)))))))) vxs_nil)))))))
abbrev s_g_missed : Stmt := topS 33
abbrev N_g_missed : List Str := ["_law_events_here", "_law_demands_here", "_law_demand_here"]
theorem sc_g_missed : FnScope N_g_missed ["_law_events_here", "_law_demands_here"] (defScope s_g_missed) := ⟨rfl, rfl, rfl, by decide +kernel, rfl, by decide +kernel, by decide +kernel⟩
theorem w_g_missed {S : SV} {S_g_meets : SV} (F : Fun K "_law_missed" "_law_missed" s_g_missed f fd) (F_g_meets : Cal P w K mg base b 1 "_law_meets" ["_law_events_here", "_law_demand_here"] S_g_meets) (hlen : ∀ ds Q E, S ds Q E → ds.length = 2)
    (law : ∀ ds Q E, S ds Q E → t_g_missed S_g_meets (envOf 3 ds) (fin Q E)) : FnOk P w K mg base (L2.CX P w) 2 f fd ["_law_events_here", "_law_demands_here"] (spV b S) := by
  refine fnV F sc_g_missed hlen (by decide) (fun cdv A outer s H E hr tk => ?_) law
  exact (vs_one (vs_ret (VN.toE (vn_lc (own := [("_law_demand_here", 2)]) rfl sc_g_missed.nd (vib_src (vx_var (pv 1))) (blkOk_by (N := N_g_missed) (sc := defScope s_g_missed) (by decide +kernel)) (by decide) (fun _ _ _ _ _ => (vg_name (i := 2) sc_g_missed.nd rfl (.inl rfl))) (fun _ _ _ _ _ => (vts_one (vt_not (vt_val (VE.toX (ve_cal F_g_meets hr takes0 (by rfl) (va_cons (ve_var (pv 0)) (va_cons (ve_var (pv 2)) va_nil)))))))) (fun _ _ _ _ _ => (ve_var (pv 2)))))))
abbrev s_g_meeting : Stmt := topS 38
abbrev N_g_meeting : List Str := ["_law_row_here", "_law_order", "_law_demands_here", "_law_found", "_law_counts_here", "_law_word_here", "_law_events_here"]
theorem sc_g_meeting : FnScope N_g_meeting ["_law_row_here", "_law_order", "_law_demands_here"] (defScope s_g_meeting) := ⟨rfl, rfl, rfl, by decide +kernel, rfl, by decide +kernel, by decide +kernel⟩
theorem w_g_meeting {S : SV} {S_g_all : SV} {S_g_missed : SV} (F : Fun K "_law_meeting" "_law_meeting" s_g_meeting f fd) (F_g_all : Cal P w K mg base b 2 "_law_all" ["_law_row_here"] S_g_all) (F_g_missed : Cal P w K mg base b 2 "_law_missed" ["_law_events_here", "_law_demands_here"] S_g_missed) (hlen : ∀ ds Q E, S ds Q E → ds.length = 3)
    (law : ∀ ds Q E, S ds Q E → t_g_meeting S_g_all S_g_missed (envOf 7 ds) (fin Q E)) : FnOk P w K mg base (L2.CX P w) 3 f fd ["_law_row_here", "_law_order", "_law_demands_here"] (spV b S) := by
  refine fnV F sc_g_meeting hlen (by decide) (fun cdv A outer s H E hr tk => ?_) law
  have hu := hr.units
  exact (vs_cons (vs_asgN (i := 3) sc_g_meeting.nd rfl (.inl rfl) (vn_lst va_nil))
      (vs_cons (vs_for (passes_of rfl) rfl (vi_src (ve_cal F_g_all hr tk (by rfl) (va_cons (ve_var (pv 0)) va_nil))) (vg_unl rfl (vgs_cons (vg_name (i := 4) sc_g_meeting.nd rfl (.inl rfl)) (vgs_cons (vg_name (i := 5) sc_g_meeting.nd rfl (.inl rfl)) (vgs_cons (vg_name (i := 6) sc_g_meeting.nd rfl (.inl rfl)) vgs_nil))))
      (vs_one (vs_if (VWe.pt (vw_and (vt_eq hu (VE.toX (ve_ix (vx_var (pv 6)) (VE.toX ve_int))) (vx_var (pv 1))) (vw_and1 (vt_eq hu (VE.toX (ve_cal F_g_missed hr tk (by rfl) (va_cons (ve_var (pv 6)) (va_cons (ve_var (pv 2)) va_nil)))) (VN.toX (vn_lst va_nil))))))
      (vs_one (vs_app (pv 3) (va_cons (VN.toE (vn_lst (va_cons (ve_var (pv 4)) (va_cons (ve_var (pv 5)) (va_cons (ve_var (pv 6)) va_nil))))) va_nil)))
      vs_nil)))
      (vs_one (vs_frz 3 (vs_ret (ve_var (pv 3)))))))
abbrev s_law_due : Stmt := topS 40
abbrev N_law_due : List Str := ["_law_row_here", "_law_order", "_law_demands_here", "_law_every", "_law_least", "_law_greatest", "_law_found", "_law_counts_here", "_law_person", "_law_one", "_law_own", "_law_word_here", "_law_events_here"]
theorem sc_law_due : FnScope N_law_due ["_law_row_here", "_law_order", "_law_demands_here"] (defScope s_law_due) := ⟨rfl, rfl, rfl, by decide +kernel, rfl, by decide +kernel, by decide +kernel⟩
theorem w_law_due {S : SV} {S_g_meeting : SV} (F : Fun K "_law_due" "_law_due" s_law_due f fd) (F_g_meeting : Cal P w K mg base b 3 "_law_meeting" ["_law_row_here", "_law_order", "_law_demands_here"] S_g_meeting) (n_range : mg "range" = none) (n_len : mg "len" = none) (n_min : mg "min" = none) (n_max : mg "max" = none) (n_tuple : mg "tuple" = none) (hlen : ∀ ds Q E, S ds Q E → ds.length = 3)
    (law : ∀ ds Q E, S ds Q E → t_law_due S_g_meeting (envOf 13 ds) (fin Q E)) : FnOk P w K mg base (L2.CX P w) 4 f fd ["_law_row_here", "_law_order", "_law_demands_here"] (spV b S) := by
  refine fnV F sc_law_due hlen (by decide) (fun cdv A outer s H E hr tk => ?_) law
  have hu := hr.units
  exact (vs_cons (vs_asg (i := 3) sc_law_due.nd rfl (.inr rfl) (ve_cal F_g_meeting hr tk (by rfl) (va_cons (ve_var (pv 0)) (va_cons (ve_var (pv 1)) (va_cons (ve_var (pv 2)) va_nil)))))
      (vs_cons (vs_if (vt_eq hu (vx_var (pv 3)) (VN.toX (vn_lst va_nil)))
      (vs_one (vs_ret (VN.toE (vn_lst (va_cons ve_non (va_cons ve_non (va_cons ve_non va_nil)))))))
      vs_nil)
      (vs_cons (vs_asg (i := 4) sc_law_due.nd rfl (.inr rfl) (VN.toE (vn_lc (own := [("_law_person", 8)]) rfl sc_law_due.nd (vib_range1 (by rfl) n_range (vxs_cons (VE.toX (ve_len (by rfl) n_len (vxs_cons (vx_var (pv 0)) vxs_nil))) vxs_nil)) (blkOk_by (N := N_law_due) (sc := defScope s_law_due) (by decide +kernel)) (by decide) (fun _ _ _ _ _ => (vg_name (i := 8) sc_law_due.nd rfl (.inr rfl))) (fun _ _ _ _ _ => vts_nil) (fun _ _ _ _ _ => (ve_min rfl (by rfl) n_min (vxs_cons (VN.toX (vn_lc (own := [("_law_one", 9)]) rfl sc_law_due.nd (vib_src (vx_var (pv 3))) (blkOk_by (by kernel_rfl)) (by decide) (fun _ _ _ _ _ => (vg_name (i := 9) sc_law_due.nd rfl (.inl rfl))) (fun _ _ _ _ _ => vts_nil) (fun _ _ _ _ _ => (ve_ix (VE.toX (ve_ix (vx_var (pv 9)) (VE.toX ve_int))) (vx_var (pv 8)))))) vxs_nil))))))
      (vs_cons (vs_asg (i := 5) sc_law_due.nd rfl (.inr rfl) (VN.toE (vn_lc (own := [("_law_person", 8)]) rfl sc_law_due.nd (vib_range1 (by rfl) n_range (vxs_cons (VE.toX (ve_len (by rfl) n_len (vxs_cons (vx_var (pv 0)) vxs_nil))) vxs_nil)) (blkOk_by (N := N_law_due) (sc := defScope s_law_due) (by decide +kernel)) (by decide) (fun _ _ _ _ _ => (vg_name (i := 8) sc_law_due.nd rfl (.inr rfl))) (fun _ _ _ _ _ => vts_nil) (fun _ _ _ _ _ => (ve_max rfl (by rfl) n_max (vxs_cons (VN.toX (vn_lc (own := [("_law_one", 9)]) rfl sc_law_due.nd (vib_src (vx_var (pv 3))) (blkOk_by (by kernel_rfl)) (by decide) (fun _ _ _ _ _ => (vg_name (i := 9) sc_law_due.nd rfl (.inl rfl))) (fun _ _ _ _ _ => vts_nil) (fun _ _ _ _ _ => (ve_ix (VE.toX (ve_ix (vx_var (pv 9)) (VE.toX ve_int))) (vx_var (pv 8)))))) vxs_nil))))))
      (vs_cons (vs_asgN (i := 6) sc_law_due.nd rfl (.inl rfl) (vn_lst (va_cons (ve_tupleC (by rfl) n_tuple (vxs_cons (VN.toX (vn_lc (own := [("_law_person", 8)]) rfl sc_law_due.nd (vib_range1 (by rfl) n_range (vxs_cons (VE.toX (ve_len (by rfl) n_len (vxs_cons (vx_var (pv 0)) vxs_nil))) vxs_nil)) (blkOk_by (N := N_law_due) (sc := defScope s_law_due) (by decide +kernel)) (by decide) (fun _ _ _ _ _ => (vg_name (i := 8) sc_law_due.nd rfl (.inl rfl))) (fun _ _ _ _ _ => vts_nil) (fun _ _ _ _ _ => (ve_tup (va_cons (ve_ix (vx_var (pv 4)) (vx_var (pv 8))) (va_cons (ve_ix (vx_var (pv 5)) (vx_var (pv 8))) va_nil)))))) vxs_nil)) va_nil)))
      (vs_cons (vs_for (passes_of rfl) rfl (vi_src (VN.toE (vn_lst (va_cons (ve_var (pv 4)) (va_cons (ve_var (pv 5)) va_nil))))) (vg_name (i := 7) sc_law_due.nd rfl (.inr rfl))
      (vs_one (vs_app (pv 6) (va_cons (ve_ix (VN.toX (vn_lc (own := [("_law_own", 10), ("_law_word_here", 11), ("_law_events_here", 12)]) rfl sc_law_due.nd (vib_src (vx_var (pv 3))) (blkOk_by (N := N_law_due) (sc := defScope s_law_due) (by decide +kernel)) (by decide) (fun _ _ _ _ _ => (vg_unl rfl (vgs_cons (vg_name (i := 10) sc_law_due.nd rfl (.inl rfl)) (vgs_cons (vg_name (i := 11) sc_law_due.nd rfl (.inl rfl)) (vgs_cons (vg_name (i := 12) sc_law_due.nd rfl (.inl rfl)) vgs_nil))))) (fun _ _ _ _ _ => (vts_one (vt_eq hu (vx_var (pv 10)) (VE.toX (ve_tupleC (by rfl) n_tuple (vxs_cons (vx_var (pv 7)) vxs_nil)))))) (fun _ _ _ _ _ => (ve_var (pv 11))))) (VE.toX ve_int)) va_nil))))
      (vs_one (vs_frz 6 (vs_ret (ve_var (pv 6)))))))))))
abbrev s_is_person : Stmt := topS 15
abbrev N_is_person : List Str := ["row", "value"]
theorem sc_is_person : FnScope N_is_person ["row", "value"] (defScope s_is_person) := ⟨rfl, rfl, rfl, by decide +kernel, rfl, by decide +kernel, by decide +kernel⟩
theorem w_is_person {S : SV} (F : Fun K "is_person" "is_person" s_is_person f fd) (n_len : mg "len" = none) (n_isinstance : mg "isinstance" = none) (n_bool : mg "bool" = none) (n_int : mg "int" = none) (hlen : ∀ ds Q E, S ds Q E → ds.length = 2)
    (law : ∀ ds Q E, S ds Q E → t_is_person (envOf 2 ds) (fin Q E)) : FnOk P w K mg base (L2.CX P w) 1 f fd ["row", "value"] (spV b S) := by
  refine fnV F sc_is_person hlen (by decide) (fun cdv A outer s H E hr tk => ?_) law
  exact (vs_one (vs_ret (ve_and (VE.toX (ve_isi (by rfl) n_isinstance (vxs_cons (vx_var (pv 1)) (vxs_cons (VE.toX (ve_tyInt (by rfl) n_int)) vxs_nil)))) (ve_and (VE.toX (ve_not (VE.toX (ve_isi (by rfl) n_isinstance (vxs_cons (vx_var (pv 1)) (vxs_cons (VE.toX (ve_tyBool (by rfl) n_bool)) vxs_nil)))))) (ve_one (ve_leLt (VE.toX ve_int) (vx_var (pv 1)) (VE.toX (ve_len (by rfl) n_len (vxs_cons (vx_var (pv 0)) vxs_nil)))))))))
abbrev s_places_of : Stmt := topS 19
abbrev N_places_of : List Str := ["row", "order", "person"]
theorem sc_places_of : FnScope N_places_of ["row", "order"] (defScope s_places_of) := ⟨rfl, rfl, rfl, by decide +kernel, rfl, by decide +kernel, by decide +kernel⟩
theorem w_places_of {S : SV} {S_is_person : SV} (F : Fun K "places_of" "places_of" s_places_of f fd) (F_is_person : Cal P w K mg base b 1 "is_person" ["row", "value"] S_is_person) (n_isinstance : mg "isinstance" = none) (n_tuple : mg "tuple" = none) (n_all : mg "all" = none) (n_sorted : mg "sorted" = none) (n_len : mg "len" = none) (n_list : mg "list" = none) (n_range : mg "range" = none) (M_NoOrder : Mk0 K mg b "NoOrder") (hlen : ∀ ds Q E, S ds Q E → ds.length = 2)
    (law : ∀ ds Q E, S ds Q E → t_places_of S_is_person (envOf 3 ds) (fin Q E)) : FnOk P w K mg base (L2.CX P w) 2 f fd ["row", "order"] (spV b S) := by
  refine fnV F sc_places_of hlen (by decide) (fun cdv A outer s H E hr tk => ?_) law
  have hu := hr.units
  exact (vs_cons (vs_if (VWe.pt (vw_or (vt_not (vt_val (VE.toX (ve_isi (by rfl) n_isinstance (vxs_cons (vx_var (pv 1)) (vxs_cons (VE.toX (ve_tyTuple (by rfl) n_tuple)) vxs_nil)))))) (vw_or1 (vt_not (vt_val (VE.toX (ve_all rfl (by rfl) n_all (vxs_cons (VN.toX (vn_lc (own := [("person", 2)]) rfl sc_places_of.nd (vib_src (vx_var (pv 1))) (blkOk_by (N := N_places_of) (sc := defScope s_places_of) (by decide +kernel)) (by decide) (fun _ _ _ _ _ => (vg_name (i := 2) sc_places_of.nd rfl (.inl rfl))) (fun _ _ _ _ _ => vts_nil) (fun _ _ _ _ _ => (ve_cal F_is_person hr takes0 (by rfl) (va_cons (ve_var (pv 0)) (va_cons (ve_var (pv 2)) va_nil)))))) vxs_nil))))))))
      (vs_one (vs_raise0 M_NoOrder rfl tk (by rfl)))
      vs_nil)
      (vs_cons (vs_if (vt_ne hu (VN.toX (vn_sortedC (by rfl) n_sorted (vxs_cons (vx_var (pv 1)) vxs_nil))) (VN.toX (vn_listRg rfl (by rfl) n_list (by rfl) n_range (VE.toX (ve_len (by rfl) n_len (vxs_cons (vx_var (pv 0)) vxs_nil))))))
      (vs_one (vs_raise0 M_NoOrder rfl tk (by rfl)))
      vs_nil)
      (vs_one (vs_ret (VN.toE (vn_lc (own := [("person", 2)]) rfl sc_places_of.nd (vib_range1 (by rfl) n_range (vxs_cons (VE.toX (ve_len (by rfl) n_len (vxs_cons (vx_var (pv 0)) vxs_nil))) vxs_nil)) (blkOk_by (N := N_places_of) (sc := defScope s_places_of) (by decide +kernel)) (by decide) (fun _ _ _ _ _ => (vg_name (i := 2) sc_places_of.nd rfl (.inl rfl))) (fun _ _ _ _ _ => vts_nil) (fun _ _ _ _ _ => (ve_mth (mx_index (hu65 hr)) (vx_var (pv 1)) (vxs_cons (vx_var (pv 2)) vxs_nil)))))))))
abbrev s_mates : Stmt := topS 10
abbrev N_mates : List Str := ["row", "found", "last", "person", "group"]
theorem sc_mates : FnScope N_mates ["row"] (defScope s_mates) := ⟨rfl, rfl, rfl, by decide +kernel, rfl, by decide +kernel, by decide +kernel⟩
theorem w_mates {S : SV} (F : Fun K "mates" "mates" s_mates f fd) (n_enumerate : mg "enumerate" = none) (n_tuple : mg "tuple" = none) (hlen : ∀ ds Q E, S ds Q E → ds.length = 1)
    (law : ∀ ds Q E, S ds Q E → t_mates (envOf 5 ds) (fin Q E)) : FnOk P w K mg base (L2.CX P w) 1 f fd ["row"] (spV b S) := by
  refine fnV F sc_mates hlen (by decide) (fun cdv A outer s H E hr tk => ?_) law
  exact (vs_cons (vs_par2 (i := 1) (j := 2) rfl sc_mates.nd rfl rfl (by decide) rfl rfl (vm_nw (vn_lst va_nil) (vm_nw vn_dict0 vm_nil)) (by rfl))
      (vs_cons (vs_for (passes_of rfl) rfl (vi_enum (by rfl) n_enumerate (va_cons (ve_var (pv 0)) va_nil)) (vg_tup rfl (vgs_cons (vg_name (i := 3) sc_mates.nd rfl (.inl rfl)) (vgs_cons (vg_name (i := 4) sc_mates.nd rfl (.inl rfl)) vgs_nil)))
      (vs_cons (vs_app (pv 1) (va_cons (ve_dget2 (hu_of hr) (vx_var (pv 2)) (ve_var (pv 4)) ve_non ⟨rfl, rfl, rfl, rfl⟩) va_nil))
      (vs_one (vs_dputO (hu_of hr) (pv 2) (ve_var (pv 4)) (ve_var (pv 3))))))
      (vs_one (vs_ret (ve_tupleC (by rfl) n_tuple (vxs_cons (vx_var (pv 1)) vxs_nil))))))
abbrev s_own_demands : Stmt := topS 20
abbrev N_own_demands : List Str := ["row", "places", "found", "person", "mate", "is_leading", "is_near", "earlier"]
theorem sc_own_demands : FnScope N_own_demands ["row", "places"] (defScope s_own_demands) := ⟨rfl, rfl, rfl, by decide +kernel, rfl, by decide +kernel, by decide +kernel⟩
theorem w_own_demands {S : SV} {S_mates : SV} (F : Fun K "own_demands" "own_demands" s_own_demands f fd) (F_mates : Cal P w K mg base b 1 "mates" ["row"] S_mates) (c_SOON : ∃ t, mg "SOON" = some (.str "soon" t)) (c_LATE : ∃ t, mg "LATE" = some (.str "late" t)) (n_range : mg "range" = none) (n_len : mg "len" = none) (n_enumerate : mg "enumerate" = none) (n_all : mg "all" = none) (n_sorted : mg "sorted" = none) (hlen : ∀ ds Q E, S ds Q E → ds.length = 2)
    (law : ∀ ds Q E, S ds Q E → t_own_demands S_mates (envOf 8 ds) (fin Q E)) : FnOk P w K mg base (L2.CX P w) 2 f fd ["row", "places"] (spV b S) := by
  refine fnV F sc_own_demands hlen (by decide) (fun cdv A outer s H E hr tk => ?_) law
  have hu := hr.units
  exact (vs_cons (vs_setLc (i := 2) (own := [("person", 3)]) rfl sc_own_demands.nd rfl rfl (by rfl) (vib_range1 (by rfl) n_range (vxs_cons (VE.toX (ve_len (by rfl) n_len (vxs_cons (vx_var (pv 0)) vxs_nil))) vxs_nil)) (blkOk_by (N := N_own_demands) (sc := defScope s_own_demands) (by decide +kernel)) (by decide) (fun _ _ _ _ _ => (vg_name (i := 3) sc_own_demands.nd rfl (.inl rfl))) (fun _ _ _ _ _ => vts_nil) (fun _ _ _ _ _ => (ve_tup (va_cons (ve_gstr (by rfl) c_SOON) (va_cons (ve_var (pv 3)) (va_cons (ve_var (pv 3)) va_nil))))))
      (vs_cons (vs_for (passes_of rfl) rfl (vi_enum (by rfl) n_enumerate (va_cons (ve_cal F_mates hr tk (by rfl) (va_cons (ve_var (pv 0)) va_nil)) va_nil)) (vg_tup rfl (vgs_cons (vg_name (i := 3) sc_own_demands.nd rfl (.inr rfl)) (vgs_cons (vg_name (i := 4) sc_own_demands.nd rfl (.inl rfl)) vgs_nil)))
      (vs_cons (vs_asg (i := 5) sc_own_demands.nd rfl (.inl rfl) (ve_all rfl (by rfl) n_all (vxs_cons (VN.toX (vn_lc (own := [("earlier", 7)]) rfl sc_own_demands.nd (vib_range1 (by rfl) n_range (vxs_cons (vx_var (pv 3)) vxs_nil)) (blkOk_by (N := N_own_demands) (sc := defScope s_own_demands) (by decide +kernel)) (by decide) (fun _ _ _ _ _ => (vg_name (i := 7) sc_own_demands.nd rfl (.inl rfl))) (fun _ _ _ _ _ => vts_nil) (fun _ _ _ _ _ => (ve_lt (VE.toX (ve_ix (vx_var (pv 1)) (vx_var (pv 7)))) (VE.toX (ve_ix (vx_var (pv 1)) (vx_var (pv 3)))))))) vxs_nil)))
      (vs_cons (vs_asg (i := 6) sc_own_demands.nd rfl (.inl rfl) (ve_and (VE.toX (ve_notN (vx_var (pv 4)) (VE.toX ve_non))) (ve_one (ve_eq hu (VE.toX (ve_ix (vx_var (pv 1)) (vx_var (pv 3)))) (VE.toX (ve_add (VE.toX (ve_ix (vx_var (pv 1)) (vx_var (pv 4)))) (VE.toX ve_int)))))))
      (vs_cons (vs_if (VWe.pt (vw_and (vt_not (vt_val (vx_var (pv 6)))) (vw_and1 (vt_not (vt_val (vx_var (pv 5)))))))
      (vs_one (vs_ret ve_non))
      vs_nil)
      (vs_cons (vs_if (VWe.pt (vw_and (vt_val (vx_var (pv 6))) (vw_and1 (vt_not (vt_val (vx_var (pv 5)))))))
      (vs_one (vs_app (pv 2) (va_cons (ve_tup (va_cons (ve_gstr (by rfl) c_SOON) (va_cons (ve_var (pv 3)) (va_cons (ve_var (pv 4)) va_nil)))) va_nil)))
      vs_nil)
      (vs_one (vs_if (VWe.pt (vw_and (vt_notN (vx_var (pv 4)) (VE.toX ve_non)) (vw_and1 (vt_not (vt_val (vx_var (pv 6)))))))
      (vs_one (vs_app (pv 2) (va_cons (ve_tup (va_cons (ve_gstr (by rfl) c_LATE) (va_cons (ve_var (pv 3)) (va_cons (ve_var (pv 4)) va_nil)))) va_nil)))
      vs_nil)))))))
      (vs_one (vs_ret (VN.toE (vn_sortedD hu (by rfl) n_sorted (vxs_cons (vx_var (pv 2)) vxs_nil)))))))
abbrev s_Stairs_is_open : Stmt := clsDef (topS 21) 1
abbrev N_Stairs_is_open : List Str := ["self", "low", "high"]
theorem sc_Stairs_is_open : FnScope N_Stairs_is_open ["self"] (defScope s_Stairs_is_open) := ⟨rfl, rfl, rfl, by decide +kernel, rfl, by decide +kernel, by decide +kernel⟩
theorem w_Stairs_is_open {S : SV} (F : Fun K "is_open" "Stairs.is_open" s_Stairs_is_open f fd) (n_all : mg "all" = none) (n_zip : mg "zip" = none) (CL_Stairs : Cls K (b.cls "Stairs")) (NA_Stairs_low : NoAttr K (b.cls "Stairs") "low") (NA_Stairs_high : NoAttr K (b.cls "Stairs") "high") (hlen : ∀ ds Q E, S ds Q E → ds.length = 1)
    (law : ∀ ds Q E, S ds Q E → t_Stairs_is_open (envOf 3 ds) (fin Q E)) : FnOk P w K mg base (L2.CX P w) 1 f fd ["self"] (spV b S) := by
  refine fnV F sc_Stairs_is_open hlen (by decide) (fun cdv A outer s H E hr tk => ?_) law
  exact (vs_one (vs_ret (ve_all rfl (by rfl) n_all (vxs_cons (VN.toX (vn_lc (own := [("low", 1), ("high", 2)]) rfl sc_Stairs_is_open.nd (vib_zip2 (by rfl) n_zip (vxs_cons (VE.toX (ve_fld CL_Stairs NA_Stairs_low (vx_var (pv 0)))) (vxs_cons (VE.toX (ve_fld CL_Stairs NA_Stairs_high (vx_var (pv 0)))) vxs_nil))) (blkOk_by (N := N_Stairs_is_open) (sc := defScope s_Stairs_is_open) (by decide +kernel)) (by decide) (fun _ _ _ _ _ => (vg_tup rfl (vgs_cons (vg_name (i := 1) sc_Stairs_is_open.nd rfl (.inl rfl)) (vgs_cons (vg_name (i := 2) sc_Stairs_is_open.nd rfl (.inl rfl)) vgs_nil)))) (fun _ _ _ _ _ => vts_nil) (fun _ _ _ _ _ => (ve_le (vx_var (pv 1)) (vx_var (pv 2)))))) vxs_nil))))
abbrev s_Stairs_init : Stmt := clsDef (topS 21) 0
abbrev N_Stairs_init : List Str := ["self", "places", "demands", "kind", "person", "other"]
theorem sc_Stairs_init : FnScope N_Stairs_init ["self", "places", "demands"] (defScope s_Stairs_init) := ⟨rfl, rfl, rfl, by decide +kernel, rfl, by decide +kernel, by decide +kernel⟩
theorem w_Stairs_init {S : SI} (F : Fun K "__init__" "Stairs.__init__" s_Stairs_init f fd) (c_LATE : ∃ t, mg "LATE" = some (.str "late" t)) (n_len : mg "len" = none) (n_list : mg "list" = none) (n_range : mg "range" = none) (n_max : mg "max" = none) (n_min : mg "min" = none)
    (CL : Cls K (b.cls "Stairs")) (A0 : NoAttr K (b.cls "Stairs") "places") (A1 : NoAttr K (b.cls "Stairs") "low") (A2 : NoAttr K (b.cls "Stairs") "high") (hlen : ∀ ds Q E, S ds Q E → ds.length + 1 = 3)
    (law : ∀ ds Q E, S ds Q E → S_stairsR ds Q E) : FnOk P w K mg base (L2.CX P w) 1 f fd ["self", "places", "demands"] (spI b "Stairs" S) := by
  have len : ∀ vs H Q E, spI b "Stairs" S vs H Q E → vs.length = 3 := fun vs H Q E ⟨x, dx, vs', Z, ds, Qd, Ed, e, _, _, _, r, s, _⟩ => by
    rw [e, List.length_cons, r.length]; exact hlen ds Qd Ed s
  obtain ⟨tl, hL⟩ := c_LATE
  refine F.okX sc_Stairs_init len (fun cdv A outer s H vs Q E hr h => ?_)
  have cm : (cxOf (L2.CX P w) P w K mg base N_Stairs_init "Stairs.__init__" (defScope s_Stairs_init) f cdv A outer s H E).calm = true := rfl
  refine ⟨_, pss_cons (ps_fld (pv 0) (pv 1) (by rfl))
    (pss_cons (ps_fld (pv 0) (pe_op op_rep (pe_lst (pa_cons pe_int pa_nil)) (pe_callB call_len_seq (by rfl) n_len boot_len (pa_cons (pv 1) pa_nil))) (by rfl))
    (pss_cons (ps_fld (pv 0) (pe_listRg rfl (by rfl) n_list (prg_1 (by rfl) n_range (pe_callB call_len_seq (by rfl) n_len boot_len (pa_cons (pv 1) pa_nil)))) (by rfl))
    (pss_cons (ps_for (passes_of rfl) rfl (pi_list (pv 2)) (pg_tup rfl (pgs_cons (pg_name (i := 3) sc_Stairs_init.nd rfl (.inl rfl)) (pgs_cons (pg_name (i := 4) sc_Stairs_init.nd rfl (.inl rfl)) (pgs_cons (pg_name (i := 5) sc_Stairs_init.nd rfl (.inl rfl)) pgs_nil))))
      (pss_one (ps_if (pt_cmpR op_eq (pv 3) (pe_glob (v := .str "late") (by rfl) hL ⟨tl, rfl⟩) (nomark _))
        (pss_one (ps_asg (pe_callB (call_max2 rfl) (by rfl) n_max bb_max (pa_cons (pe_ix ix_list (pe_fld (pv 0) (by rfl)) (pv 4) (fun _ _ => rfl)) (pa_cons (pe_op op_add (pe_ix ix_list (pv 1) (pv 5) (fun _ _ => rfl)) pe_int) pa_nil))) (pg_sub (pe_fld (pv 0) (by rfl)) (pv 4) set_list (by intro _; rfl)) (by rfl) (by rfl) (by rfl)))
        (pss_one (ps_asg (pe_callB (call_min2 rfl) (by rfl) n_min bb_min (pa_cons (pe_ix ix_list (pe_fld (pv 0) (by rfl)) (pv 4) (fun _ _ => rfl)) (pa_cons (pe_ix ix_list (pv 1) (pv 5) (fun _ _ => rfl)) pa_nil))) (pg_sub (pe_fld (pv 0) (by rfl)) (pv 4) set_list (by intro _; rfl)) (by rfl) (by rfl) (by rfl))))))
    (pss_cons (ps_for (passes_of rfl) rfl (pi_range2 (by rfl) n_range (pa_cons pe_int (pa_cons (pe_callB call_len_seq (by rfl) n_len boot_len (pa_cons (pv 1) pa_nil)) pa_nil))) (pg_name (i := 4) sc_Stairs_init.nd rfl (.inl rfl))
      (pss_one (ps_asg (pe_callB (call_max2 rfl) (by rfl) n_max bb_max (pa_cons (pe_ix ix_list (pe_fld (pv 0) (by rfl)) (pv 4) (fun _ _ => rfl)) (pa_cons (pe_ix ix_list (pe_fld (pv 0) (by rfl)) (pe_op op_sub (pv 4) pe_int) (fun _ _ => rfl)) pa_nil))) (pg_sub (pe_fld (pv 0) (by rfl)) (pv 4) set_list (by intro _; rfl)) (by rfl) (by rfl) (by rfl))))
    (pss_one (ps_for (passes_of rfl) rfl (pi_range3 (by rfl) n_range (pa_cons (pe_op op_sub (pe_callB call_len_seq (by rfl) n_len boot_len (pa_cons (pv 1) pa_nil)) pe_int) (pa_cons (pe_un un_neg pe_int) (pa_cons (pe_un un_neg pe_int) pa_nil)))) (pg_name (i := 4) sc_Stairs_init.nd rfl (.inl rfl))
      (pss_one (ps_asg (pe_callB (call_min2 rfl) (by rfl) n_min bb_min (pa_cons (pe_ix ix_list (pe_fld (pv 0) (by rfl)) (pv 4) (fun _ _ => rfl)) (pa_cons (pe_ix ix_list (pe_fld (pv 0) (by rfl)) (pe_op op_add (pv 4) pe_int) (fun _ _ => rfl)) pa_nil))) (pg_sub (pe_fld (pv 0) (by rfl)) (pv 4) set_list (by intro _; rfl)) (by rfl) (by rfl) (by rfl))))))))), ?_⟩
  obtain ⟨x, dx, vs', Z, ds, Qd, Ed, rfl, hx, g, nz, r, s0, l, m⟩ := h
  obtain ⟨ps, dm, rfl, h0, hz, hd, q⟩ := law _ _ _ s0
  cases r with
  | cons r1 r =>
  cases r with
  | cons r2 r =>
  cases r
  cases r1 with
  | @lst a1 us _ e1 n1 q1 =>
  cases r2 with
  | @lst a2 ws _ e2 n2 q2 =>
  have eu := q1.ints
  subst eu
  have hxa1 : a1 ≠ x := fun z => n1 (.inr z)
  have hxa2 : a2 ≠ x := fun z => n2 (.inr z)
  have zl : ps.length ≤ sizeLine := by rw [sizeLine_eq]; omega
  -- self.places = places
  refine ⟨.ref a1, rfl, .ref x, rfl, x, b.cls "Stairs", dx, [], rfl, hx, CL, A0, by decide, ?_⟩
  have B1 : StB H x (b.cls "Stairs") dx [("places", .ref a1)] (upd H x (.ins (b.cls "Stairs") dx (putF "places" (.ref a1) []))) := ⟨upd_same, fun a o e n => by rw [upd_ne n]; exact e⟩
  generalize upd H x (.ins (b.cls "Stairs") dx (putF "places" (.ref a1) [])) = H1 at B1 ⊢
  -- self.low = [0] * len(places)
  refine ⟨Nat.le_trans (show 1 ≤ 1000 by decide) (by decide), fun p0 hp0 => ?_⟩
  have B2 : StB H x (b.cls "Stairs") dx [("places", .ref a1)] (upd H1 p0 (.lst [V.int 0])) := B1.new hp0
  have g2 : upd H1 p0 (.lst [V.int 0]) p0 = some (.lst [V.int 0]) := upd_same
  generalize upd H1 p0 (.lst [V.int 0]) = H2 at B2 g2 ⊢
  refine ⟨.ref a1, rfl, a1, _, rfl, .inl (SqL.of (B2.keep a1 _ e1 hxa1)), ?_⟩
  refine ⟨p0, _, _, rfl, rfl, g2, by omega, by simp; omega, by rw [sizeLine_eq]; simp; omega, fun l1 hl1 => ?_⟩
  have r0 : (List.replicate (((ps.map V.int).length : Nat) : Int).toNat [V.int 0]).flatten = (List.replicate ps.length (0 : Int)).map V.int := by
    simp
  rw [r0]
  have B3 : StB H x (b.cls "Stairs") dx [("places", .ref a1)] (upd H2 l1 (.lst ((List.replicate ps.length (0 : Int)).map V.int))) := B2.new hl1
  have g3 : upd H2 l1 (.lst ((List.replicate ps.length (0 : Int)).map V.int)) l1 = some (.lst ((List.replicate ps.length (0 : Int)).map V.int)) := upd_same
  have x1 : l1 ≠ x := fun z => by rw [z, B2.at_] at hl1; cases hl1
  have k1 : H l1 = none := by
    cases e : H l1 with
    | none => rfl
    | some o => rw [B2.keep l1 o e x1] at hl1; cases hl1
  generalize upd H2 l1 (.lst ((List.replicate ps.length (0 : Int)).map V.int)) = H3 at B3 g3 ⊢
  refine ⟨.ref x, rfl, x, b.cls "Stairs", dx, _, rfl, B3.at_, CL, A1, (show 1 < 1000 by decide), ?_⟩
  have B4 : StB H x (b.cls "Stairs") dx [("places", .ref a1), ("low", .ref l1)] (upd H3 x (.ins (b.cls "Stairs") dx (putF "low" (.ref l1) [("places", .ref a1)]))) := B3.fld
  have g4 : upd H3 x (.ins (b.cls "Stairs") dx (putF "low" (.ref l1) [("places", .ref a1)])) l1 = some (.lst ((List.replicate ps.length (0 : Int)).map V.int)) := by rw [upd_ne x1]; exact g3
  generalize upd H3 x (.ins (b.cls "Stairs") dx (putF "low" (.ref l1) [("places", .ref a1)])) = H4 at B4 g4 ⊢
  -- self.high = list(range(len(places)))
  refine ⟨.ref a1, rfl, a1, _, rfl, .inl (SqL.of (B4.keep a1 _ e1 hxa1)), _, rfl, ⟨by omega, by omega, by omega, by simp; omega, by simp; omega⟩, fun l2 hl2 => ?_⟩
  have r1 : rgV 0 (((ps.map V.int).length : Nat) : Int) = ((List.range ps.length).map fun (k : Nat) => (k : Int)).map V.int := by
    unfold rgV
    simp
  rw [r1]
  have B5 : StB H x (b.cls "Stairs") dx [("places", .ref a1), ("low", .ref l1)] (upd H4 l2 (.lst (((List.range ps.length).map fun (k : Nat) => (k : Int)).map V.int))) := B4.new hl2
  have g5 : upd H4 l2 (.lst (((List.range ps.length).map fun (k : Nat) => (k : Int)).map V.int)) l2 = some (.lst (((List.range ps.length).map fun (k : Nat) => (k : Int)).map V.int)) := upd_same
  have x2 : l2 ≠ x := fun z => by rw [z, B4.at_] at hl2; cases hl2
  have ne12 : l1 ≠ l2 := fun z => by rw [← z, g4] at hl2; cases hl2
  have g6 : upd H4 l2 (.lst (((List.range ps.length).map fun (k : Nat) => (k : Int)).map V.int)) l1 = some (.lst ((List.replicate ps.length (0 : Int)).map V.int)) := by rw [upd_ne ne12]; exact g4
  have k2 : H l2 = none := by
    cases e : H l2 with
    | none => rfl
    | some o => rw [B4.keep l2 o e x2] at hl2; cases hl2
  generalize upd H4 l2 (.lst (((List.range ps.length).map fun (k : Nat) => (k : Int)).map V.int)) = H5 at B5 g5 g6 ⊢
  refine ⟨.ref x, rfl, x, b.cls "Stairs", dx, _, rfl, B5.at_, CL, A2, (show 2 < 1000 by decide), ?_⟩
  have L0 : StL H x (b.cls "Stairs") dx a1 l1 l2 (dmS ps []).1 (dmS ps []).2 (upd H5 x (.ins (b.cls "Stairs") dx (putF "high" (.ref l2) [("places", .ref a1), ("low", .ref l1)]))) :=
    ⟨B5.fld, by rw [upd_ne x1]; exact g6, by rw [upd_ne x2]; exact g5, k1, k2, ne12, x1, x2⟩
  generalize upd H5 x (.ins (b.cls "Stairs") dx (putF "high" (.ref l2) [("places", .ref a1), ("low", .ref l1)])) = H6 at L0 ⊢
  have frz : ∀ {t : Addr} {o : Obj} {ys : List V} {H' : Hp} {ls hs : List Int}, H t = some (HO.th o ys) → StL H x (b.cls "Stairs") dx a1 l1 l2 ls hs H' → H' t = some (HO.th o ys) := fun {t o ys H' ls hs} e S => S.b.keep t _ e fun z => by rw [z, hx] at e; cases e
  refine ⟨.ref a2, rfl, a2, rfl, ⟨_, SqL.of (L0.b.keep a2 _ e2 hxa2)⟩, ?_⟩
  refine for_list (xs := ws) (fun i σ H' => ∃ y3 y4 y5, σ = [some (.ref x), some (.ref a1), some (.ref a2), y3, y4, y5] ∧ StL H x (b.cls "Stairs") dx a1 l1 l2 (dmS ps (dm.take i)).1 (dmS ps (dm.take i)).2 H') ⟨_, _, _, rfl, L0⟩
    (fun i σ H' _ ⟨_, _, _, _, S⟩ => SqL.of (S.b.keep a2 _ e2 hxa2)) (fun i v σ H' hv iv => ?_) (fun σ H' iv => ?_)
  · obtain ⟨y3, y4, y5, rfl, S⟩ := iv
    obtain ⟨d, t, o, hdi, rfl, ht⟩ := dm_at q2 hv
    obtain ⟨hd1, hd2⟩ := hd d (List.mem_of_getElem? hdi)
    obtain ⟨dl1, dl2⟩ := dmS_len (ps := ps) (dm := dm.take i)
    have tk : dm.take (i + 1) = dm.take i ++ [d] := by rw [List.take_add_one, hdi]; rfl
    refine ⟨t, _, rfl, SqT.th (frz ht S), rfl, _, _, rfl, _, _, rfl, _, _, rfl, rfl, ?_⟩
    have lowF : List.lookup "low" [("places", V.ref a1), ("low", .ref l1), ("high", .ref l2)] = some (.ref l1) := by rfl
    have highF : List.lookup "high" [("places", V.ref a1), ("low", .ref l1), ("high", .ref l2)] = some (.ref l2) := by rfl
    obtain ⟨dk, dp, dq⟩ := d
    have i1 : dp < (dmS ps (dm.take i)).1.length := by rw [dl1]; exact hd1
    have i2 : dp < (dmS ps (dm.take i)).2.length := by rw [dl2]; exact hd1
    have i3 : dq < ps.length := hd2
    have ka := SqL.of (K := K) (S.b.keep a1 _ e1 hxa1)
    cases dk with
    | true =>
      refine ⟨_, rfl, rfl, true, by simp, ?_⟩
      rw [if_pos rfl]
      refine ⟨.ref x, rfl, x, _, dx, _, .ref l1, rfl, S.b.at_, CL, A1, lowF, .int (dp : Nat), rfl, l1, _, (dp : Nat), _, rfl, rfl, SqL.of S.low, at_ints i1, ?_⟩
      refine ⟨.ref a1, rfl, .int (dq : Nat), rfl, a1, _, (dq : Nat), _, rfl, rfl, ka, at_ints i3, _, 1, rfl, rfl, _, _, rfl, ?_⟩
      refine ⟨.ref x, rfl, x, _, dx, _, .ref l1, rfl, S.b.at_, CL, A1, lowF, .int (dp : Nat), rfl, l1, _, (dp : Nat), dp, rfl, rfl, S.low, ix_ints i1, ?_⟩
      refine ⟨_, _, _, rfl, ?_⟩
      rw [tk, dmS_snoc, ← List.map_set]
      exact S.setLow _
    | false =>
      refine ⟨_, rfl, rfl, false, by simp; decide +kernel, ?_⟩
      rw [if_neg Bool.false_ne_true]
      refine ⟨.ref x, rfl, x, _, dx, _, .ref l2, rfl, S.b.at_, CL, A2, highF, .int (dp : Nat), rfl, l2, _, (dp : Nat), _, rfl, rfl, SqL.of S.high, at_ints i2, ?_⟩
      refine ⟨.ref a1, rfl, .int (dq : Nat), rfl, a1, _, (dq : Nat), _, rfl, rfl, ka, at_ints i3, _, _, rfl, ?_⟩
      refine ⟨.ref x, rfl, x, _, dx, _, .ref l2, rfl, S.b.at_, CL, A2, highF, .int (dp : Nat), rfl, l2, _, (dp : Nat), dp, rfl, rfl, S.high, ix_ints i2, ?_⟩
      refine ⟨_, _, _, rfl, ?_⟩
      rw [tk, dmS_snoc, ← List.map_set]
      exact S.setHigh _
  · obtain ⟨y3, y4, y5, rfl, S⟩ := iv
    have lw : ws.length = dm.length := by rw [q2.length, List.length_map]
    rw [lw, List.take_length] at S
    obtain ⟨dl1, dl2⟩ := dmS_len (ps := ps) (dm := dm)
    have lowF : List.lookup "low" [("places", V.ref a1), ("low", .ref l1), ("high", .ref l2)] = some (.ref l1) := by rfl
    have highF : List.lookup "high" [("places", V.ref a1), ("low", .ref l1), ("high", .ref l2)] = some (.ref l2) := by rfl
    have lu : (ps.map V.int).length = ps.length := List.length_map _
    -- for person in range(1, len(places))
    refine ⟨.ref a1, rfl, a1, _, rfl, .inl (SqL.of (S.b.keep a1 _ e1 hxa1)), 1, _, rfl, ⟨by decide, by decide, by omega, by omega⟩, ?_⟩
    have en : ((((ps.map V.int).length : Nat) : Int) - 1).toNat = ps.length - 1 := by omega
    rw [en]
    refine for_range (fun i σ H' => ∃ y3 y4 y5, σ = [some (.ref x), some (.ref a1), some (.ref a2), y3, y4, y5] ∧ StL H x (b.cls "Stairs") dx a1 l1 l2 (upL (dmS ps dm).1 i) (dmS ps dm).2 H') ⟨_, _, _, rfl, S⟩ (fun i σ H' hi iv => ?_) (fun σ H' iv => ?_)
    · obtain ⟨y3, y4, y5, rfl, S⟩ := iv
      have i1 : i + 1 < (upL (dmS ps dm).1 i).length := by rw [upL_len, dl1]; omega
      have i0 : i < (upL (dmS ps dm).1 i).length := by omega
      have ei : (1 : Int) + (i : Nat) = ((i + 1 : Nat) : Int) := by omega
      have ej : (1 : Int) + (i : Nat) - 1 = ((i : Nat) : Int) := by omega
      refine ⟨.ref x, rfl, x, _, dx, _, .ref l1, rfl, S.b.at_, CL, A1, lowF, _, rfl, l1, _, _, _, rfl, rfl, SqL.of S.low, by rw [ei]; exact at_ints i1, ?_⟩
      refine ⟨.ref x, rfl, x, _, dx, _, .ref l1, rfl, S.b.at_, CL, A1, lowF, _, rfl, _, 1, rfl, rfl, l1, _, _, _, rfl, rfl, SqL.of S.low, by rw [ej]; exact at_ints i0, _, _, rfl, ?_⟩
      refine ⟨.ref x, rfl, x, _, dx, _, .ref l1, rfl, S.b.at_, CL, A1, lowF, _, rfl, l1, _, _, i + 1, rfl, rfl, S.low, by rw [ei]; exact ix_ints i1, ?_⟩
      refine ⟨_, _, _, rfl, ?_⟩
      rw [upL_succ, ← List.map_set]
      exact S.setLow _
    · obtain ⟨y3, y4, y5, rfl, S⟩ := iv
      -- for person in range(len(places) - 2, -1, -1)
      refine ⟨.ref a1, rfl, a1, _, rfl, .inl (SqL.of (S.b.keep a1 _ e1 hxa1)), _, 2, rfl, rfl, 1, rfl, 1, rfl, _, _, _, ps.length - 1, rfl, ?_, ?_⟩
      · have := RgC.neg (i := (((ps.map V.int).length : Nat) : Int) - 2) (j := -1) (by omega) (by omega) (by decide) (by decide)
        have e : ((((ps.map V.int).length : Nat) : Int) - 2 - -1).toNat = ps.length - 1 := by omega
        rw [e] at this
        exact this
      refine for_rangeC (fun i σ H' => ∃ y3 y4 y5, σ = [some (.ref x), some (.ref a1), some (.ref a2), y3, y4, y5] ∧ StL H x (b.cls "Stairs") dx a1 l1 l2 (lowC ps dm) (dnL ps.length (dmS ps dm).2 i) H') ⟨_, _, _, rfl, S⟩ (fun i σ H' hi iv => ?_) (fun σ H' iv => ?_)
      · obtain ⟨y3, y4, y5, rfl, S⟩ := iv
        have dl3 : (dnL ps.length (dmS ps dm).2 i).length = ps.length := by rw [dnL_len, dl2]
        have i0 : ps.length - 2 - i < (dnL ps.length (dmS ps dm).2 i).length := by omega
        have i1 : ps.length - 2 - i + 1 < (dnL ps.length (dmS ps dm).2 i).length := by omega
        have ei : (((ps.map V.int).length : Nat) : Int) - 2 + ((i : Nat) : Int) * -1 = ((ps.length - 2 - i : Nat) : Int) := by omega
        have ej : (((ps.map V.int).length : Nat) : Int) - 2 + ((i : Nat) : Int) * -1 + 1 = ((ps.length - 2 - i + 1 : Nat) : Int) := by omega
        refine ⟨.ref x, rfl, x, _, dx, _, .ref l2, rfl, S.b.at_, CL, A2, highF, _, rfl, l2, _, _, _, rfl, rfl, SqL.of S.high, by rw [ei]; exact at_ints i0, ?_⟩
        refine ⟨.ref x, rfl, x, _, dx, _, .ref l2, rfl, S.b.at_, CL, A2, highF, _, rfl, _, 1, rfl, rfl, l2, _, _, _, rfl, rfl, SqL.of S.high, by rw [ej]; exact at_ints i1, _, _, rfl, ?_⟩
        refine ⟨.ref x, rfl, x, _, dx, _, .ref l2, rfl, S.b.at_, CL, A2, highF, _, rfl, l2, _, _, ps.length - 2 - i, rfl, rfl, S.high, by rw [ei]; exact ix_ints i0, ?_⟩
        refine ⟨_, _, _, rfl, ?_⟩
        rw [dnL_succ, ← List.map_set]
        exact S.setHigh _
      · obtain ⟨y3, y4, y5, rfl, S⟩ := iv
        have gH : b.G H' := b.loc H H' (fun c hc => by
          have hn := b.dom H c g.g hc
          have cx : c ≠ x := fun z => nz (by rw [← z]; exact g.zb c hc)
          cases e : H c with
          | none => exact absurd e hn
          | some o => exact S.b.keep c o e cx) (fun c o st e => S.b.keep c o e fun z => by rw [z, hx] at e; cases e; exact st) g.g
        refine l H' _ (fun a o e _ n => S.b.keep a o e n) gH ⟨rfl, dx, _, S.b.at_, .cons ?_ (.cons ?_ (.cons ?_ .nil))⟩ q
        · exact .lst (S.b.keep a1 _ e1 hxa1) n1 (Rqs.of_ints ps)
        · exact .lst S.low (fun z => z.elim (fun z => g.dom _ z S.n1) S.x1) (Rqs.of_ints _)
        · exact .lst S.high (fun z => z.elim (fun z => g.dom _ z S.n2) S.x2) (Rqs.of_ints _)
abbrev s_order_demands : Stmt := topS 22
abbrev N_order_demands : List Str := ["row", "order", "places", "found"]
theorem sc_order_demands : FnScope N_order_demands ["row", "order"] (defScope s_order_demands) := ⟨rfl, rfl, rfl, by decide +kernel, rfl, by decide +kernel, by decide +kernel⟩
theorem w_order_demands {S : SV} {S_places_of : SV} {S_own_demands : SV} {S_Stairs_is_open : SV} {S_Stairs_init : SI} (F : Fun K "order_demands" "order_demands" s_order_demands f fd) (F_places_of : Cal P w K mg base b 2 "places_of" ["row", "order"] S_places_of) (F_own_demands : Cal P w K mg base b 2 "own_demands" ["row", "places"] S_own_demands) (F_Stairs_is_open : CalM P w K mg base b 1 "Stairs" "is_open" ["self"] S_Stairs_is_open) (F_Stairs_init : CalI P w K mg base b 1 "Stairs" ["self", "places", "demands"] S_Stairs_init) (n_tuple : mg "tuple" = none) (M_Impossible : Mk0 K mg b "Impossible") (hlen : ∀ ds Q E, S ds Q E → ds.length = 2)
    (law : ∀ ds Q E, S ds Q E → t_order_demands S_places_of S_own_demands S_Stairs_is_open S_Stairs_init (envOf 4 ds) (fin Q E)) : FnOk P w K mg base (L2.CX P w) 3 f fd ["row", "order"] (spV b S) := by
  refine fnV F sc_order_demands hlen (by decide) (fun cdv A outer s H E hr tk => ?_) law
  exact (vs_cons (vs_asg (i := 2) sc_order_demands.nd rfl (.inl rfl) (ve_cal F_places_of hr tk (by rfl) (va_cons (ve_var (pv 0)) (va_cons (ve_var (pv 1)) va_nil))))
      (vs_cons (vs_asg (i := 3) sc_order_demands.nd rfl (.inl rfl) (ve_cal F_own_demands hr tk (by rfl) (va_cons (ve_var (pv 0)) (va_cons (ve_var (pv 2)) va_nil))))
      (vs_cons (vs_if (VWe.pt (vw_or (vt_isN (vx_var (pv 3)) (VE.toX ve_non)) (vw_or1 (vt_not (vt_val (VE.toX (ve_meth0 (m := "is_open") F_Stairs_is_open hr tk (VN.toE (vn_make F_Stairs_init hr tk (by rfl) (va_cons (ve_var (pv 2)) (va_cons (ve_var (pv 3)) va_nil)))))))))))
      (vs_one (vs_raise0 M_Impossible rfl tk (by rfl)))
      vs_nil)
      (vs_one (vs_ret (ve_tupleC (by rfl) n_tuple (vxs_cons (vx_var (pv 3)) vxs_nil)))))))
abbrev s_is_demand : Stmt := topS 16
abbrev N_is_demand : List Str := ["row", "value"]
theorem sc_is_demand : FnScope N_is_demand ["row", "value"] (defScope s_is_demand) := ⟨rfl, rfl, rfl, by decide +kernel, rfl, by decide +kernel, by decide +kernel⟩
theorem w_is_demand {S : SV} {S_is_person : SV} (F : Fun K "is_demand" "is_demand" s_is_demand f fd) (F_is_person : Cal P w K mg base b 1 "is_person" ["row", "value"] S_is_person) (c_SOON : ∃ t, mg "SOON" = some (.str "soon" t)) (c_LATE : ∃ t, mg "LATE" = some (.str "late" t)) (n_isinstance : mg "isinstance" = none) (n_tuple : mg "tuple" = none) (n_len : mg "len" = none) (n_str : mg "str" = none) (hlen : ∀ ds Q E, S ds Q E → ds.length = 2)
    (law : ∀ ds Q E, S ds Q E → t_is_demand S_is_person (envOf 2 ds) (fin Q E)) : FnOk P w K mg base (L2.CX P w) 2 f fd ["row", "value"] (spV b S) := by
  refine fnV F sc_is_demand hlen (by decide) (fun cdv A outer s H E hr tk => ?_) law
  have hu := hr.units
  exact (vs_cons (vs_if (VWe.pt (vw_or (vt_not (vt_val (VE.toX (ve_isi (by rfl) n_isinstance (vxs_cons (vx_var (pv 1)) (vxs_cons (VE.toX (ve_tyTuple (by rfl) n_tuple)) vxs_nil)))))) (vw_or (vt_ne hu (VE.toX (ve_len (by rfl) n_len (vxs_cons (vx_var (pv 1)) vxs_nil))) (VE.toX ve_int)) (vw_or1 (vt_not (vt_val (VE.toX (ve_isi (by rfl) n_isinstance (vxs_cons (VE.toX (ve_ix (vx_var (pv 1)) (VE.toX ve_int))) (vxs_cons (VE.toX (ve_tyStr (by rfl) n_str)) vxs_nil))))))))))
      (vs_one (vs_ret ve_bl))
      vs_nil)
      (vs_one (vs_ret (ve_and (VE.toX (ve_in hu (VE.toX (ve_ix (vx_var (pv 1)) (VE.toX ve_int))) (VE.toX (ve_tup (va_cons (ve_gstr (by rfl) c_SOON) (va_cons (ve_gstr (by rfl) c_LATE) va_nil)))))) (ve_and (VE.toX (ve_cal F_is_person hr tk (by rfl) (va_cons (ve_var (pv 0)) (va_cons (ve_ix (vx_var (pv 1)) (VE.toX ve_int)) va_nil)))) (ve_one (ve_cal F_is_person hr tk (by rfl) (va_cons (ve_var (pv 0)) (va_cons (ve_ix (vx_var (pv 1)) (VE.toX ve_int)) va_nil)))))))))
abbrev s_demands_error : Stmt := topS 17
abbrev N_demands_error : List Str := ["row", "value", "index", "demand"]
theorem sc_demands_error : FnScope N_demands_error ["row", "value"] (defScope s_demands_error) := ⟨rfl, rfl, rfl, by decide +kernel, rfl, by decide +kernel, by decide +kernel⟩
theorem w_demands_error {S : SV} {S_is_demand : SV} (F : Fun K "demands_error" "demands_error" s_demands_error f fd) (F_is_demand : Cal P w K mg base b 2 "is_demand" ["row", "value"] S_is_demand) (c_MAX_DEMANDS : ∃ t, mg "MAX_DEMANDS" = some (.int 30 t)) (n_isinstance : mg "isinstance" = none) (n_tuple : mg "tuple" = none) (n_len : mg "len" = none) (n_enumerate : mg "enumerate" = none) (hlen : ∀ ds Q E, S ds Q E → ds.length = 2)
    (law : ∀ ds Q E, S ds Q E → t_demands_error S_is_demand (envOf 4 ds) (fin Q E)) : FnOk P w K mg base (L2.CX P w) 3 f fd ["row", "value"] (spV b S) := by
  refine fnV F sc_demands_error hlen (by decide) (fun cdv A outer s H E hr tk => ?_) law
  exact (vs_cons (vs_if (VWe.pt (vw_or (vt_not (vt_val (VE.toX (ve_isi (by rfl) n_isinstance (vxs_cons (vx_var (pv 1)) (vxs_cons (VE.toX (ve_tyTuple (by rfl) n_tuple)) vxs_nil)))))) (vw_or1 (vt_gt (VE.toX (ve_len (by rfl) n_len (vxs_cons (vx_var (pv 1)) vxs_nil))) (VE.toX (ve_gint (by rfl) c_MAX_DEMANDS))))))
      (vs_one (vs_ret (ve_tup (va_cons ve_non (va_cons ve_str va_nil)))))
      vs_nil)
      (vs_cons (vs_for (passes_of rfl) rfl (vi_enum (by rfl) n_enumerate (va_cons (ve_var (pv 1)) va_nil)) (vg_tup rfl (vgs_cons (vg_name (i := 2) sc_demands_error.nd rfl (.inl rfl)) (vgs_cons (vg_name (i := 3) sc_demands_error.nd rfl (.inl rfl)) vgs_nil)))
      (vs_one (vs_if (vt_not (vt_val (VE.toX (ve_cal F_is_demand hr tk (by rfl) (va_cons (ve_var (pv 0)) (va_cons (ve_var (pv 3)) va_nil))))))
      (vs_one (vs_ret (ve_tup (va_cons (ve_var (pv 2)) (va_cons ve_str va_nil)))))
      vs_nil)))
      (vs_one (vs_ret ve_non))))
abbrev s_require_demands : Stmt := topS 18
abbrev N_require_demands : List Str := ["row", "value", "error"]
theorem sc_require_demands : FnScope N_require_demands ["row", "value"] (defScope s_require_demands) := ⟨rfl, rfl, rfl, by decide +kernel, rfl, by decide +kernel, by decide +kernel⟩
theorem w_require_demands {S : SV} {S_demands_error : SV} (F : Fun K "require_demands" "require_demands" s_require_demands f fd) (F_demands_error : Cal P w K mg base b 3 "demands_error" ["row", "value"] S_demands_error) (M_BadDemand : Mk1 P w K mg base b "BadDemand" "index") (hlen : ∀ ds Q E, S ds Q E → ds.length = 2)
    (law : ∀ ds Q E, S ds Q E → t_require_demands S_demands_error (envOf 3 ds) (fin Q E)) : FnOk P w K mg base (L2.CX P w) 4 f fd ["row", "value"] (spV b S) := by
  refine fnV F sc_require_demands hlen (by decide) (fun cdv A outer s H E hr tk => ?_) law
  exact (vs_cons (vs_asg (i := 2) sc_require_demands.nd rfl (.inl rfl) (ve_cal F_demands_error hr tk (by rfl) (va_cons (ve_var (pv 0)) (va_cons (ve_var (pv 1)) va_nil))))
      (vs_one (vs_if (vt_notN (vx_var (pv 2)) (VE.toX ve_non))
      (vs_one (vs_raise1 M_BadDemand hr rfl tk (by rfl) (ve_ix (vx_var (pv 2)) (VE.toX ve_int))))
      vs_nil)))
abbrev s_stairs_for : Stmt := topS 23
abbrev N_stairs_for : List Str := ["row", "order", "demands", "own"]
theorem sc_stairs_for : FnScope N_stairs_for ["row", "order", "demands"] (defScope s_stairs_for) := ⟨rfl, rfl, rfl, by decide +kernel, rfl, by decide +kernel, by decide +kernel⟩
theorem w_stairs_for {S : SV} {S_order_demands : SV} {S_require_demands : SV} {S_Stairs_init : SI} {S_places_of : SV} (F : Fun K "stairs_for" "stairs_for" s_stairs_for f fd) (F_order_demands : Cal P w K mg base b 3 "order_demands" ["row", "order"] S_order_demands) (F_require_demands : Cal P w K mg base b 4 "require_demands" ["row", "value"] S_require_demands) (F_Stairs_init : CalI P w K mg base b 1 "Stairs" ["self", "places", "demands"] S_Stairs_init) (F_places_of : Cal P w K mg base b 2 "places_of" ["row", "order"] S_places_of) (hlen : ∀ ds Q E, S ds Q E → ds.length = 3)
    (law : ∀ ds Q E, S ds Q E → t_stairs_for S_order_demands S_require_demands S_Stairs_init S_places_of (envOf 4 ds) (fin Q E)) : FnOk P w K mg base (L2.CX P w) 5 f fd ["row", "order", "demands"] (spV b S) := by
  refine fnV F sc_stairs_for hlen (by decide) (fun cdv A outer s H E hr tk => ?_) law
  exact (vs_cons (vs_asg (i := 3) sc_stairs_for.nd rfl (.inl rfl) (ve_cal F_order_demands hr tk (by rfl) (va_cons (ve_var (pv 0)) (va_cons (ve_var (pv 1)) va_nil))))
      (vs_cons (vs_expr (ve_cal F_require_demands hr tk (by rfl) (va_cons (ve_var (pv 0)) (va_cons (ve_var (pv 2)) va_nil))))
      (vs_one (vs_ret (VN.toE (vn_make F_Stairs_init hr tk (by rfl) (va_cons (ve_cal F_places_of hr tk (by rfl) (va_cons (ve_var (pv 0)) (va_cons (ve_var (pv 1)) va_nil))) (va_cons (VN.toE (vn_lst (va_star (ve_var (pv 3)) (va_star (ve_var (pv 2)) va_nil)))) va_nil))))))))
abbrev s_arrival_ranges : Stmt := topS 24
abbrev N_arrival_ranges : List Str := ["row", "order", "demands", "stairs"]
theorem sc_arrival_ranges : FnScope N_arrival_ranges ["row", "order", "demands"] (defScope s_arrival_ranges) := ⟨rfl, rfl, rfl, by decide +kernel, rfl, by decide +kernel, by decide +kernel⟩
theorem w_arrival_ranges {S : SV} {S_stairs_for : SV} {S_Stairs_is_open : SV} (F : Fun K "arrival_ranges" "arrival_ranges" s_arrival_ranges f fd) (F_stairs_for : Cal P w K mg base b 5 "stairs_for" ["row", "order", "demands"] S_stairs_for) (F_Stairs_is_open : CalM P w K mg base b 1 "Stairs" "is_open" ["self"] S_Stairs_is_open) (n_tuple : mg "tuple" = none) (n_zip : mg "zip" = none) (CL_Stairs : Cls K (b.cls "Stairs")) (NA_Stairs_low : NoAttr K (b.cls "Stairs") "low") (NA_Stairs_high : NoAttr K (b.cls "Stairs") "high") (hlen : ∀ ds Q E, S ds Q E → ds.length = 3)
    (law : ∀ ds Q E, S ds Q E → t_arrival_ranges S_stairs_for S_Stairs_is_open (envOf 4 ds) (fin Q E)) : FnOk P w K mg base (L2.CX P w) 6 f fd ["row", "order", "demands"] (spV b S) := by
  refine fnV F sc_arrival_ranges hlen (by decide) (fun cdv A outer s H E hr tk => ?_) law
  exact (vs_cons (vs_asg (i := 3) sc_arrival_ranges.nd rfl (.inl rfl) (ve_cal F_stairs_for hr tk (by rfl) (va_cons (ve_var (pv 0)) (va_cons (ve_var (pv 1)) (va_cons (ve_var (pv 2)) va_nil)))))
      (vs_one (vs_ret (ve_if (vt_val (VE.toX (ve_meth0 (m := "is_open") F_Stairs_is_open hr tk (ve_var (pv 3))))) (ve_tupZ rfl (by rfl) n_tuple (by rfl) n_zip (va_cons (ve_fld CL_Stairs NA_Stairs_low (vx_var (pv 3))) (va_cons (ve_fld CL_Stairs NA_Stairs_high (vx_var (pv 3))) va_nil)) (na := by rfl)) ve_non))))
abbrev s_word_with : Stmt := topS 11
abbrev N_word_with : List Str := ["counts", "parts", "before", "count"]
theorem sc_word_with : FnScope N_word_with ["counts"] (defScope s_word_with) := ⟨rfl, rfl, rfl, by decide +kernel, rfl, by decide +kernel, by decide +kernel⟩
theorem w_word_with {S : SV} (F : Fun K "word_with" "word_with" s_word_with f fd) (c_SERVICE : ∃ t, mg "SERVICE" = some (.str "s" t)) (c_ARRIVAL : ∃ t, mg "ARRIVAL" = some (.str "a" t)) (n_len : mg "len" = none) (hlen : ∀ ds Q E, S ds Q E → ds.length = 1)
    (law : ∀ ds Q E, S ds Q E → t_word_with (envOf 4 ds) (fin Q E)) : FnOk P w K mg base (L2.CX P w) 1 f fd ["counts"] (spV b S) := by
  refine fnV F sc_word_with hlen (by decide) (fun cdv A outer s H E hr tk => ?_) law
  exact (vs_cons (vs_par2 (i := 1) (j := 2) rfl sc_word_with.nd rfl rfl (by decide) rfl rfl (vm_nw (vn_lst va_nil) (vm_sh ve_int vm_nil)) (by rfl))
      (vs_cons (vs_for (passes_of rfl) rfl (vi_src (ve_var (pv 0))) (vg_name (i := 3) sc_word_with.nd rfl (.inl rfl))
      (vs_cons (vs_app (pv 1) (va_cons (ve_add (VE.toX (ve_mulA (VE.toX (ve_gstr (by rfl) c_SERVICE)) (VE.toX (ve_sub (vx_var (pv 3)) (vx_var (pv 2)))))) (VE.toX (ve_gstr (by rfl) c_ARRIVAL))) va_nil))
      (vs_one (vs_asg (i := 2) sc_word_with.nd rfl (.inl rfl) (ve_var (pv 3))))))
      (vs_one (vs_ret (ve_add (VE.toX (ve_mth mx_join (VE.toX ve_str) (vxs_cons (vx_var (pv 1)) vxs_nil))) (VE.toX (ve_mulA (VE.toX (ve_gstr (by rfl) c_SERVICE)) (VE.toX (ve_sub (VE.toX (ve_len (by rfl) n_len (vxs_cons (vx_var (pv 0)) vxs_nil))) (vx_var (pv 2)))))))))))
abbrev s_meeting_word : Stmt := topS 25
abbrev N_meeting_word : List Str := ["row", "order", "demands", "most", "stairs"]
theorem sc_meeting_word : FnScope N_meeting_word ["row", "order", "demands", "most"] (defScope s_meeting_word) := ⟨rfl, rfl, rfl, by decide +kernel, rfl, by decide +kernel, by decide +kernel⟩
theorem w_meeting_word {S : SV} {S_stairs_for : SV} {S_Stairs_is_open : SV} {S_word_with : SV} (F : Fun K "meeting_word" "meeting_word" s_meeting_word f fd) (F_stairs_for : Cal P w K mg base b 5 "stairs_for" ["row", "order", "demands"] S_stairs_for) (F_Stairs_is_open : CalM P w K mg base b 1 "Stairs" "is_open" ["self"] S_Stairs_is_open) (F_word_with : Cal P w K mg base b 1 "word_with" ["counts"] S_word_with) (CL_Stairs : Cls K (b.cls "Stairs")) (NA_Stairs_high : NoAttr K (b.cls "Stairs") "high") (NA_Stairs_low : NoAttr K (b.cls "Stairs") "low") (hlen : ∀ ds Q E, S ds Q E → ds.length = 4)
    (law : ∀ ds Q E, S ds Q E → t_meeting_word S_stairs_for S_Stairs_is_open S_word_with (envOf 5 ds) (fin Q E)) : FnOk P w K mg base (L2.CX P w) 6 f fd ["row", "order", "demands", "most"] (spV b S) := by
  refine fnV F sc_meeting_word hlen (by decide) (fun cdv A outer s H E hr tk => ?_) law
  exact (vs_cons (vs_asg (i := 4) sc_meeting_word.nd rfl (.inl rfl) (ve_cal F_stairs_for hr tk (by rfl) (va_cons (ve_var (pv 0)) (va_cons (ve_var (pv 1)) (va_cons (ve_var (pv 2)) va_nil)))))
      (vs_cons (vs_if (vt_not (vt_val (VE.toX (ve_meth0 (m := "is_open") F_Stairs_is_open hr tk (ve_var (pv 4))))))
      (vs_one (vs_ret ve_non))
      vs_nil)
      (vs_one (vs_ret (ve_cal F_word_with hr tk (by rfl) (va_cons (ve_if (vt_val (vx_var (pv 3))) (ve_fld CL_Stairs NA_Stairs_high (vx_var (pv 4))) (ve_fld CL_Stairs NA_Stairs_low (vx_var (pv 4)))) va_nil))))))
abbrev s_law : Stmt := topS 42
abbrev N_law : List Str := ["_law_script", "_law_gear_here", "_law_turn", "_law_row_here", "_law_events_here", "_law_demands_here", "_law_shown", "_law_due_here", "_law_again", "_law_found"]
theorem sc_law : FnScope N_law ["_law_script"] (defScope s_law) := ⟨rfl, rfl, rfl, by decide +kernel, rfl, by decide +kernel, by decide +kernel⟩
theorem w_law {S_g_row : SV} {S_g_events : SV} {S_g_word : SV} {S_g_demands : SV} {S_law_due_far : SV} {S_law_due : SV} {S_arrival_ranges : SV} {S_meeting_word : SV} (F_g_row : Cal P w K mg base b 2 "_law_row" ["_law_gear_here", "_law_upto"] S_g_row) (F_g_events : Cal P w K mg base b 1 "_law_events" ["_law_row_here", "_law_word_here"] S_g_events) (F_g_word : Cal P w K mg base b 2 "_law_word" ["_law_gear_here", "_law_count"] S_g_word) (F_g_demands : Cal P w K mg base b 3 "_law_demands" ["_law_gear_here", "_law_row_here", "_law_events_here", "_law_upto"] S_g_demands) (F_law_due_far : Cal P w K mg base b 2 "_law_due_far" ["_law_row_here", "_law_order", "_law_demands_here"] S_law_due_far) (F_law_due : Cal P w K mg base b 4 "_law_due" ["_law_row_here", "_law_order", "_law_demands_here"] S_law_due) (F_arrival_ranges : Cal P w K mg base b 6 "arrival_ranges" ["row", "order", "demands"] S_arrival_ranges) (F_meeting_word : CalW P w K mg base b 6 "meeting_word" ["row", "order", "demands"] "most" (.bool false) S_meeting_word) (n_range : mg "range" = none) (n_len : mg "len" = none) (n_repr : mg "repr" = none) (cdv : Value) (A : Around) (outer : List Env) (s : Shared) (H : Hp) (E : XK) (hr : Room 6 (A.deeper (envOfC "law" (defScope s_law) s.heap.objs.size f cdv))) (hgd : (A.deeper (envOfC "law" (defScope s_law) s.heap.objs.size f cdv)).guards = some []) (tk : Takes (cxOf (L2.CX P w) P w K mg base N_law "law" (defScope s_law) f cdv A outer s H E) (WF E)) : VSs (cxOf (L2.CX P w) P w K mg base N_law "law" (defScope s_law) f cdv A outer s H E) b (WF E) (defBody s_law).tail (t_law S_g_row S_g_events S_g_word S_g_demands S_law_due_far S_law_due S_arrival_ranges S_meeting_word) := by
  have hu := hr.units
  exact (vs_cons (vs_for (passes_of rfl) rfl (vi_range1 (by rfl) n_range (vxs_cons (VE.toX ve_int) vxs_nil)) (vg_name (i := 2) sc_law.nd rfl (.inl rfl))
      (vs_cons (vs_asg (i := 3) sc_law.nd rfl (.inl rfl) (ve_cal F_g_row hr tk (by rfl) (va_cons (ve_var (pv 1)) (va_cons (ve_ix (VN.toX (vn_lst (va_cons ve_int (va_cons ve_int va_nil)))) (VE.toX (ve_mod (vx_var (pv 2)) (VE.toX ve_int)))) va_nil))))
      (vs_cons (vs_asg (i := 4) sc_law.nd rfl (.inl rfl) (ve_cal F_g_events hr tk (by rfl) (va_cons (ve_var (pv 3)) (va_cons (ve_cal F_g_word hr tk (by rfl) (va_cons (ve_var (pv 1)) (va_cons (ve_len (by rfl) n_len (vxs_cons (vx_var (pv 3)) vxs_nil)) va_nil))) va_nil))))
      (vs_cons (vs_asg (i := 5) sc_law.nd rfl (.inl rfl) (ve_cal F_g_demands hr tk (by rfl) (va_cons (ve_var (pv 1)) (va_cons (ve_var (pv 3)) (va_cons (ve_var (pv 4)) (va_cons (ve_ix (VN.toX (vn_lst (va_cons ve_int (va_cons ve_int va_nil)))) (VE.toX (ve_mod (vx_var (pv 2)) (VE.toX ve_int)))) va_nil))))))
      (vs_cons (vs_par2 (i := 6) (j := 7) rfl sc_law.nd rfl rfl (by decide) rfl rfl (vm_sh (ve_repr hu hgd (by rfl) n_repr (vxs_cons (VN.toX (vn_lst (va_cons (ve_var (pv 3)) (va_cons (ve_var (pv 4)) (va_cons (ve_var (pv 5)) va_nil))))) vxs_nil)) (vm_sh (ve_cal F_law_due_far hr tk (by rfl) (va_cons (ve_var (pv 3)) (va_cons (ve_ix (vx_var (pv 4)) (VE.toX ve_int)) (va_cons (ve_var (pv 5)) va_nil)))) vm_nil)) (by rfl))
      (vs_cons (vs_if (VWe.pt (vw_and (vt_lt (VE.toX (ve_len (by rfl) n_len (vxs_cons (vx_var (pv 3)) vxs_nil))) (VE.toX ve_int)) (vw_and1 (vt_ne hu (vx_var (pv 7)) (VE.toX (ve_cal F_law_due hr tk (by rfl) (va_cons (ve_var (pv 3)) (va_cons (ve_ix (vx_var (pv 4)) (VE.toX ve_int)) (va_cons (ve_var (pv 5)) va_nil)))))))))
      (vs_one (vs_ret ve_bl))
      vs_nil)
      (vs_cons (vs_for (passes_of rfl) rfl (vi_range1 (by rfl) n_range (vxs_cons (VE.toX ve_int) vxs_nil)) (vg_name (i := 8) sc_law.nd rfl (.inl rfl))
      (vs_cons (vs_asgN (i := 9) sc_law.nd rfl (.inl rfl) (vn_lst (va_cons (ve_cal F_arrival_ranges hr tk (by rfl) (va_cons (ve_var (pv 3)) (va_cons (ve_ix (vx_var (pv 4)) (VE.toX ve_int)) (va_cons (ve_var (pv 5)) va_nil)))) (va_cons (ve_calW F_meeting_word hr tk (by rfl) (va_cons (ve_var (pv 3)) (va_cons (ve_ix (vx_var (pv 4)) (VE.toX ve_int)) (va_cons (ve_var (pv 5)) va_nil)))) va_nil))))
      (vs_cons (vs_app (pv 9) (va_cons (ve_calWk F_meeting_word hr tk (by rfl) (va_cons (ve_var (pv 3)) (va_cons (ve_ix (vx_var (pv 4)) (VE.toX ve_int)) (va_cons (ve_var (pv 5)) va_nil))) ve_bl) va_nil))
      (vs_cons (vs_if (vt_ne hu (VE.toX (ve_repr hu hgd (by rfl) n_repr (vxs_cons (vx_var (pv 9)) vxs_nil))) (VE.toX (ve_repr hu hgd (by rfl) n_repr (vxs_cons (vx_var (pv 7)) vxs_nil))))
      (vs_one (vs_ret ve_bl))
      vs_nil)
      (vs_one (vs_if (vt_ne hu (VE.toX (ve_repr hu hgd (by rfl) n_repr (vxs_cons (VE.toX (ve_calWk F_meeting_word hr tk (by rfl) (va_cons (ve_var (pv 3)) (va_cons (ve_ix (vx_var (pv 4)) (VE.toX ve_int)) (va_cons (ve_var (pv 5)) va_nil))) ve_bl)) vxs_nil))) (VE.toX (ve_repr hu hgd (by rfl) n_repr (vxs_cons (VE.toX (ve_ix (vx_var (pv 7)) (VE.toX ve_int))) vxs_nil))))
      (vs_one (vs_ret ve_bl))
      vs_nil))))))
      (vs_one (vs_if (vt_ne hu (VE.toX (ve_repr hu hgd (by rfl) n_repr (vxs_cons (VN.toX (vn_lst (va_cons (ve_var (pv 3)) (va_cons (ve_var (pv 4)) (va_cons (ve_var (pv 5)) va_nil))))) vxs_nil))) (vx_var (pv 6)))
      (vs_one (vs_ret ve_bl))
      vs_nil)))))))))
      (vs_one (vs_ret ve_bl)))
end
end LawP
set_option Elab.async false
set_option linter.all false
set_option maxRecDepth 100000
set_option maxHeartbeats 4000000
namespace LawP
open PySem PySem.Spec PyProof.Rows L2 VL
abbrev sGear : Stmt := topS 27
abbrev sTooth : Stmt := topS 28
theorem scGear : FnScope ["_law_script", "_law_large", "_law_mixed", "_law_cell"] ["_law_script"] (defScope sGear) := ⟨rfl, rfl, rfl, by decide +kernel, rfl, by decide +kernel, by decide +kernel⟩
theorem scTooth : FnScope ["_law_gear_here", "_law_many", "_law_digit", "_law_mixed"] ["_law_gear_here", "_law_many"] (defScope sTooth) := ⟨rfl, rfl, rfl, by decide +kernel, rfl, by decide +kernel, by decide +kernel⟩
section
variable {P : Program} {w : World} {K : PySem.W.Frag} {mg : Str → Option Value} {base : Heap} {f f2 : Addr} {fd fd2 : FuncData}
theorem ok_tooth {k : Nat} (F : Fun K "_law_tooth" "_law_tooth" sTooth f fd) : FnOk P w K mg base (L2.CX P w) (k + 1) f fd ["_law_gear_here", "_law_many"] spTooth := by
  refine F.okX scTooth (fun vs H Q E h => ?_) (fun cdv A outer s H vs Q E hr h => ?_)
  · obtain ⟨r, m, rfl, _⟩ := h
    rfl
  · refine ⟨_, pss_cons (ps_if (pt_cmpR op_gt (pe_ix ix_list (pv 0) pe_int (fun _ _ => rfl)) pe_int (nomark _))
          (pss_cons (ps_set (i := 2) scTooth.nd rfl (.inl rfl) (pe_op op_mod (pe_ix ix_list (pv 0) pe_int (fun _ _ => rfl)) (pv 1)))
          (pss_cons (ps_asg (pe_op op_fdivB (pe_ix ix_list (pv 0) pe_int (fun _ _ => rfl)) (pv 1)) (pg_sub (pv 0) pe_int set_list (by intro _; rfl)) (by rfl) (by rfl) (by rfl))
          (pss_one (ps_ret (pv 2))))) pss_nil)
      (pss_cons (ps_asg (pe_op op_add (pe_ix ix_list (pv 0) pe_int (fun _ _ => rfl)) pe_int) (pg_sub (pv 0) pe_int set_list (by intro _; rfl)) (by rfl) (by rfl) (by rfl))
      (pss_cons (ps_set (i := 3) scTooth.nd rfl (.inl rfl) (pe_op op_add (pe_op op_mul (pe_ix ix_list (pv 0) pe_int (fun _ _ => rfl)) pe_int) (pe_op op_mul pe_int (pe_ix ix_list (pv 0) pe_int (fun _ _ => rfl)))))
      (pss_cons (ps_asg (pe_op op_mod (pe_op op_add (pv 3) pe_int) pe_int) (pg_sub (pv 0) pe_int set_list (by intro _; rfl)) (by rfl) (by rfl) (by rfl))
      (pss_one (ps_ret (pe_op op_mod (pe_op op_fdivB (pe_op op_mod (pe_op op_mul (pe_ix ix_list (pv 0) pe_int (fun _ _ => rfl)) (pe_ix ix_list (pv 0) pe_int (fun _ _ => rfl))) pe_int) pe_int) (pv 1))))))), ?_⟩
    obtain ⟨r, m, rfl, ⟨x, y, z, hb⟩, m0, m1, q⟩ := h
    have a0 : ∀ a b c : V, atI [a, b, c] 0 = some a := fun _ _ _ => rfl
    have a1 : ∀ a b c : V, atI [a, b, c] 1 = some b := fun _ _ _ => rfl
    have a2 : ∀ a b c : V, atI [a, b, c] 2 = some c := fun _ _ _ => rfl
    -- if gear[0] > 0
    refine ⟨.ref r, rfl, r, _, _, .int x, rfl, rfl, SqL.of hb, a0 _ _ _, x, 0, rfl, rfl, _, rfl, ite2 (fun c => ?_) (fun c => ?_)⟩
    · refine ⟨.ref r, rfl, r, _, _, .int x, rfl, rfl, SqL.of hb, a0 _ _ _, .int m, rfl, x, m, rfl, rfl, m0, ?_⟩
      refine ⟨.ref r, rfl, r, _, _, .int x, rfl, rfl, SqL.of hb, a0 _ _ _, .int m, rfl, x, m, rfl, rfl, ⟨by omega, by omega⟩, ?_⟩
      refine ⟨.ref r, rfl, r, _, 0, 0, rfl, rfl, hb, rfl, ?_⟩
      exact ⟨.int (x % m), rfl, q _ _ (KeepG.refl.upd) ⟨_, _, _, upd_same⟩ (Int.emod_nonneg _ (by omega)) (Int.emod_lt_of_pos _ m0)⟩
    · refine ⟨.ref r, rfl, r, _, _, .int z, rfl, rfl, SqL.of hb, a2 _ _ _, z, 1, rfl, rfl, ?_⟩
      refine ⟨.ref r, rfl, r, _, 2, 2, rfl, rfl, hb, rfl, ?_⟩
      have kp : KeepG r H (upd H r (.lst [.int x, .int y, .int (z + 1)])) := KeepG.refl.upd
      have hb2 : upd H r (.lst [.int x, .int y, .int (z + 1)]) r = some (.lst [.int x, .int y, .int (z + 1)]) := upd_same
      refine ⟨.ref r, rfl, r, _, _, .int y, rfl, rfl, SqL.of hb2, a1 _ _ _, y, 2862933555777941757, rfl, rfl, .inr ⟨by decide, by decide⟩, .ref r, rfl, r, _, _, .int (z + 1), rfl, rfl, SqL.of hb2, a2 _ _ _, 3037000493, z + 1, rfl, rfl, .inl ⟨by decide, by decide⟩, _, _, rfl, rfl, ?_⟩
      dsimp only
      generalize y * 2862933555777941757 + 3037000493 * (z + 1) = mx
      refine ⟨.int mx, rfl, mx, 1, rfl, rfl, mx + 1, 288230376151711687, rfl, rfl, (show (0 : Int) < 288230376151711687 by decide), ?_⟩
      refine ⟨.ref r, rfl, r, _, 1, 1, rfl, rfl, hb2, rfl, ?_⟩
      dsimp only
      generalize hy2 : (mx + 1) % 288230376151711687 = y2
      have w2 : 0 ≤ y2 ∧ y2 < 288230376151711687 := by rw [← hy2]; exact ⟨Int.emod_nonneg _ (by decide), Int.emod_lt_of_pos _ (by decide)⟩
      have kp3 : KeepG r H (upd (upd H r (.lst [.int x, .int y, .int (z + 1)])) r (.lst [.int x, .int y2, .int (z + 1)])) := kp.upd
      have hb3 : (upd (upd H r (.lst [.int x, .int y, .int (z + 1)])) r (.lst [.int x, .int y2, .int (z + 1)])) r = some (.lst [.int x, .int y2, .int (z + 1)]) := upd_same
      refine ⟨.ref r, rfl, r, _, _, .int y2, rfl, rfl, SqL.of hb3, a1 _ _ _, .ref r, rfl, r, _, _, .int y2, rfl, rfl, SqL.of hb3, a1 _ _ _, y2, y2, rfl, rfl, .inl ⟨by omega, by omega⟩, _, 288230376151711687, rfl, rfl, (show (0 : Int) < 288230376151711687 by decide), _, 8191, rfl, rfl, ⟨by decide, by decide⟩, .int m, rfl, _, m, rfl, rfl, m0, ?_⟩
      exact q _ _ kp3 ⟨_, _, _, hb3⟩ (Int.emod_nonneg _ (by omega)) (Int.emod_lt_of_pos _ m0)
theorem sqL_up {H H' : Hp} {a : Addr} {xs : List V} (h : SqL K H a xs) (k : ∀ c o, H c = some o → H' c = some o) : SqL K H' a xs :=
  h.imp (fun r => r.imp (k _ _) fun ⟨o, e⟩ => ⟨o, k _ _ e⟩) id
theorem ok_gear {k : Nat} (F : Fun K "_law_gear" "_law_gear" sGear f fd) (ma : mg "abs" = none) (mi : mg "int" = none) : FnOk P w K mg base (L2.CX P w) (k + 1) f fd ["_law_script"] (spGear K) := by
  refine F.okX scGear (fun vs H Q E h => ?_) (fun cdv A outer s H vs Q E hr h => ?_)
  · obtain ⟨a, ns, rfl, _⟩ := h
    rfl
  · have hu := hr.units
    refine ⟨_, pss_cons (ps_asg (pe_tupF (pa_cons pe_int (pa_cons pe_int pa_nil))) (pg_tup rfl (pgs_cons (pg_name (i := 1) scGear.nd rfl (.inl rfl)) (pgs_cons (pg_name (i := 2) scGear.nd rfl (.inl rfl)) pgs_nil))) (by rfl) (by rfl) (by rfl))
      (pss_cons (ps_for (passes_of rfl) rfl (pi_list (pe_slice sl_list (pv 0) po_none (po_some pe_int))) (pg_name (i := 3) scGear.nd rfl (.inl rfl))
        (pss_cons (ps_set (i := 2) scGear.nd rfl (.inl rfl) (pe_op op_mod (pe_op op_add (pe_op op_add (pe_op op_add (pe_op op_mul (pv 2) pe_int) (pe_op op_mul pe_int (pe_callB call_abs (by rfl) ma boot_abs (pa_cons (pv 3) pa_nil)))) (pe_callTy call_int1 (by rfl) mi PySem.Pv.boot_int (pa_cons (pe_cmpR op_lt (pv 3) pe_int (nomark _)) pa_nil))) pe_int) pe_int))
        (pss_one (ps_if (pt_cmpR op_ge (pe_callB call_abs (by rfl) ma boot_abs (pa_cons (pv 3) pa_nil)) (pe_op op_pow pe_int pe_int) (nomark _))
          (pss_one (ps_set (i := 1) scGear.nd rfl (.inl rfl) (pe_op op_add (pe_op op_mul (pv 1) pe_int) (pe_callB call_abs (by rfl) ma boot_abs (pa_cons (pv 3) pa_nil))))) pss_nil))))
      (pss_one (ps_ret (pe_lst (pa_cons (pv 1) (pa_cons (pv 2) (pa_cons pe_int pa_nil))))))), ?_⟩
    obtain ⟨a, ns, rfl, hS, hl, q⟩ := h
    refine ⟨by decide, fun p0 o0 hp0 ho0 => ⟨p0, _, rfl, SqT.th upd_same, rfl, _, _, rfl, _, _, rfl, rfl, ?_⟩⟩
    have keep : ∀ {H1 H2 : Hp} {b : Addr} {o : HO}, (∀ c o, H1 c = some o → H2 c = some o) → H2 b = none → ∀ c o', H1 c = some o' → upd H2 b o c = some o' := fun {H1 H2 b o} k hn c o' e => by rw [upd_ne (ne_of_none (k c o' e) hn)]; exact k c o' e
    refine ⟨.ref a, rfl, 55, rfl, a, _, rfl, sqL_up hS (keep (fun _ _ e => e) hp0), fun p hp => ?_⟩
    obtain ⟨ms, ems, hms⟩ := cut_ints ns none (some 55)
    rw [ems]
    refine ⟨p, rfl, ⟨_, SqL.of upd_same⟩, ?_⟩
    refine for_list (xs := ms.map V.int) (fun i σ H' => ∃ (l mx : Int) (x4 : Option V), σ = [some (.ref a), some (.int l), some (.int mx), x4] ∧ H' p = some (.lst (ms.map V.int))) ⟨0, 4003, none, rfl, upd_same⟩ (fun i σ H' _ ⟨_, _, _, _, e⟩ => SqL.of e) (fun i x σ H' hx iv => ?_) (fun σ H' iv => ?_)
    · obtain ⟨l, mx, x4, rfl, e⟩ := iv
      rw [List.getElem?_map] at hx
      cases em : ms[i]? with
      | none => rw [em] at hx; cases hx
      | some c =>
        rw [em] at hx
        cases hx
        refine ⟨.int mx, rfl, mx, 48271, rfl, rfl, .inr ⟨by decide, by decide⟩, .int c, rfl, c, rfl, 3, _, rfl, rfl, .inl ⟨by decide, by decide⟩, ?_⟩
        refine ⟨_, _, rfl, rfl, .int c, rfl, c, 0, rfl, rfl, .inr ⟨_, rfl, _, _, rfl, rfl, _, 7, rfl, rfl, _, 288230376151711687, rfl, rfl, (show (0 : Int) < 288230376151711687 by decide), ?_⟩⟩
        refine ⟨.int c, rfl, c, rfl, 10, 18, rfl, rfl, ⟨by decide, by decide, by decide⟩, _, _, rfl, rfl, _, rfl, ite2 (fun _ => ?_) (fun _ => ?_)⟩
        · exact ⟨.int l, rfl, l, 11, rfl, rfl, .inr ⟨by decide, by decide⟩, .int c, rfl, c, rfl, _, _, rfl, rfl, _, _, _, rfl, e⟩
        · exact ⟨_, _, _, rfl, e⟩
    · obtain ⟨l, mx, x4, rfl, e⟩ := iv
      refine ⟨.int l, rfl, .int mx, rfl, Nat.le_trans (show 3 ≤ 1000 by decide) (by decide), fun r hr => ?_⟩
      exact q r _ ⟨_, _, _, upd_same⟩
end
end LawP
set_option Elab.async false
set_option linter.all false
set_option maxRecDepth 100000
set_option maxHeartbeats 4000000
namespace LawP
open PySem PySem.Spec PyProof.Rows L2 VL
theorem all_mk {l : PySem.W.OpenLaw} {w : World} {K : PySem.W.Frag} {h : Heap} {mg : Str → Option Value} {fa : Addr} (X : K.In h) (G : h.Ns mainGlobals mg) (hfa : mg "law" = some (.ref fa))
    (d27 : DefK K "_law_gear" (topS 27)) (d28 : DefK K "_law_tooth" (topS 28)) (d29 : DefK K "_law_row" (topS 29)) (d31 : DefK K "_law_events" (topS 31)) (d36 : DefK K "_law_demand" (topS 36)) (d32 : DefK K "_law_meets" (topS 32)) (d37 : DefK K "_law_demands" (topS 37)) (d30 : DefK K "_law_word" (topS 30)) (d39 : DefK K "_law_stairs" (topS 39)) (d41 : DefK K "_law_due_far" (topS 41)) (d34 : DefK K "_law_counts" (topS 34)) (d35 : DefK K "_law_all" (topS 35)) (d33 : DefK K "_law_missed" (topS 33)) (d38 : DefK K "_law_meeting" (topS 38)) (d40 : DefK K "_law_due" (topS 40)) (d15 : DefK K "is_person" (topS 15)) (d19 : DefK K "places_of" (topS 19)) (d10 : DefK K "mates" (topS 10)) (d20 : DefK K "own_demands" (topS 20)) (d22 : DefK K "order_demands" (topS 22)) (d16 : DefK K "is_demand" (topS 16)) (d17 : DefK K "demands_error" (topS 17)) (d18 : DefK K "require_demands" (topS 18)) (d23 : DefK K "stairs_for" (topS 23)) (d24 : DefK K "arrival_ranges" (topS 24)) (d11 : DefK K "word_with" (topS 11)) (d25 : DefW K "meeting_word" (topS 25) "most" (.bl false)) (d42 : DefK K "law" (topS 42))
    {t0 : Tok} (m0 : PySem.W.nsIn K mainGlobals "SOON" = some (some (.str "soon" t0))) {t1 : Tok} (m1 : PySem.W.nsIn K mainGlobals "LATE" = some (some (.str "late" t1))) {t2 : Tok} (m2 : PySem.W.nsIn K mainGlobals "MAX_DEMANDS" = some (some (.int 30 t2))) {t3 : Tok} (m3 : PySem.W.nsIn K mainGlobals "SERVICE" = some (some (.str "s" t3))) {t4 : Tok} (m4 : PySem.W.nsIn K mainGlobals "ARRIVAL" = some (some (.str "a" t4)))
    (z_range : PySem.W.nsIn K mainGlobals "range" = some none) (z_tuple : PySem.W.nsIn K mainGlobals "tuple" = some none) (z_len : PySem.W.nsIn K mainGlobals "len" = some none) (z_enumerate : PySem.W.nsIn K mainGlobals "enumerate" = some none) (z_int : PySem.W.nsIn K mainGlobals "int" = some none) (z_min : PySem.W.nsIn K mainGlobals "min" = some none) (z_max : PySem.W.nsIn K mainGlobals "max" = some none) (z_sorted : PySem.W.nsIn K mainGlobals "sorted" = some none) (z_isinstance : PySem.W.nsIn K mainGlobals "isinstance" = some none) (z_bool : PySem.W.nsIn K mainGlobals "bool" = some none) (z_all : PySem.W.nsIn K mainGlobals "all" = some none) (z_list : PySem.W.nsIn K mainGlobals "list" = some none) (z_zip : PySem.W.nsIn K mainGlobals "zip" = some none) (z_str : PySem.W.nsIn K mainGlobals "str" = some none) (z_repr : PySem.W.nsIn K mainGlobals "repr" = some none) (z_abs : PySem.W.nsIn K mainGlobals "abs" = some none) (R_BadDemand : Rai1 K "BadDemand" "BadDemand.__init__" "index" s_BadDemand) (R_NoOrder : Rai0 K "NoOrder") (R_Impossible : Rai0 K "Impossible") (KL_Stairs : ClsK K "Stairs" "Stairs.__init__" s_Stairs_init) (KN_Stairs_low : NoAtK K "Stairs" "low") (KN_Stairs_high : NoAtK K "Stairs" "high") (KN_Stairs_places : NoAtK K "Stairs" "places") (KM_Stairs_is_open : MethK K "Stairs" "is_open" "Stairs.is_open" s_Stairs_is_open) :
    ∃ fd : FuncData, (∀ (s : Shared) (v : Value), BindsTo s fd ⟨[v], []⟩ [("_law_script", v)]) ∧ ∀ base : Heap, K.In base → base.Ns mainGlobals mg → FnG l.prog w K mg base 7 fa fd ["_law_script"] (spLaw K) := by
  obtain ⟨f42, oc, kV, doc, pm, cdv, ct, od, an, osl, a, ql, qc, qp⟩ := d42.ex
  have e := hfa.symm.trans (PySem.W.mg_of X G a)
  cases e
  have y_range := PySem.W.mg_none_of X G z_range
  have y_tuple := PySem.W.mg_none_of X G z_tuple
  have y_len := PySem.W.mg_none_of X G z_len
  have y_enumerate := PySem.W.mg_none_of X G z_enumerate
  have y_int := PySem.W.mg_none_of X G z_int
  have y_min := PySem.W.mg_none_of X G z_min
  have y_max := PySem.W.mg_none_of X G z_max
  have y_sorted := PySem.W.mg_none_of X G z_sorted
  have y_isinstance := PySem.W.mg_none_of X G z_isinstance
  have y_bool := PySem.W.mg_none_of X G z_bool
  have y_all := PySem.W.mg_none_of X G z_all
  have y_list := PySem.W.mg_none_of X G z_list
  have y_zip := PySem.W.mg_none_of X G z_zip
  have y_str := PySem.W.mg_none_of X G z_str
  have y_repr := PySem.W.mg_none_of X G z_repr
  have y_abs := PySem.W.mg_none_of X G z_abs
  have c0 := PySem.W.mg_of X G m0
  have c1 := PySem.W.mg_of X G m1
  have c2 := PySem.W.mg_of X G m2
  have c3 := PySem.W.mg_of X G m3
  have c4 := PySem.W.mg_of X G m4
  obtain ⟨f27, v27, F27, g27, p27, e27⟩ := d27.use X G
  have B27 := F27.binds (ps := ["_law_script"]) fun _ _ _ _ _ _ us hl => match us, hl with | [_], _ => rfl
  obtain ⟨f28, v28, F28, g28, p28, e28⟩ := d28.use X G
  have B28 := F28.binds (ps := ["_law_gear_here", "_law_many"]) fun _ _ _ _ _ _ us hl => match us, hl with | [_, _], _ => rfl
  obtain ⟨f29, v29, F29, g29, p29, e29⟩ := d29.use X G
  have B29 := F29.binds (ps := ["_law_gear_here", "_law_upto"]) fun _ _ _ _ _ _ us hl => match us, hl with | [_, _], _ => rfl
  obtain ⟨f31, v31, F31, g31, p31, e31⟩ := d31.use X G
  have B31 := F31.binds (ps := ["_law_row_here", "_law_word_here"]) fun _ _ _ _ _ _ us hl => match us, hl with | [_, _], _ => rfl
  obtain ⟨f36, v36, F36, g36, p36, e36⟩ := d36.use X G
  have B36 := F36.binds (ps := ["_law_gear_here", "_law_row_here"]) fun _ _ _ _ _ _ us hl => match us, hl with | [_, _], _ => rfl
  obtain ⟨f32, v32, F32, g32, p32, e32⟩ := d32.use X G
  have B32 := F32.binds (ps := ["_law_events_here", "_law_demand_here"]) fun _ _ _ _ _ _ us hl => match us, hl with | [_, _], _ => rfl
  obtain ⟨f37, v37, F37, g37, p37, e37⟩ := d37.use X G
  have B37 := F37.binds (ps := ["_law_gear_here", "_law_row_here", "_law_events_here", "_law_upto"]) fun _ _ _ _ _ _ us hl => match us, hl with | [_, _, _, _], _ => rfl
  obtain ⟨f30, v30, F30, g30, p30, e30⟩ := d30.use X G
  have B30 := F30.binds (ps := ["_law_gear_here", "_law_count"]) fun _ _ _ _ _ _ us hl => match us, hl with | [_, _], _ => rfl
  obtain ⟨f39, v39, F39, g39, p39, e39⟩ := d39.use X G
  have B39 := F39.binds (ps := ["_law_row_here", "_law_order", "_law_demands_here"]) fun _ _ _ _ _ _ us hl => match us, hl with | [_, _, _], _ => rfl
  obtain ⟨f41, v41, F41, g41, p41, e41⟩ := d41.use X G
  have B41 := F41.binds (ps := ["_law_row_here", "_law_order", "_law_demands_here"]) fun _ _ _ _ _ _ us hl => match us, hl with | [_, _, _], _ => rfl
  obtain ⟨f34, v34, F34, g34, p34, e34⟩ := d34.use X G
  have B34 := F34.binds (ps := ["_law_word_here"]) fun _ _ _ _ _ _ us hl => match us, hl with | [_], _ => rfl
  obtain ⟨f35, v35, F35, g35, p35, e35⟩ := d35.use X G
  have B35 := F35.binds (ps := ["_law_row_here"]) fun _ _ _ _ _ _ us hl => match us, hl with | [_], _ => rfl
  obtain ⟨f33, v33, F33, g33, p33, e33⟩ := d33.use X G
  have B33 := F33.binds (ps := ["_law_events_here", "_law_demands_here"]) fun _ _ _ _ _ _ us hl => match us, hl with | [_, _], _ => rfl
  obtain ⟨f38, v38, F38, g38, p38, e38⟩ := d38.use X G
  have B38 := F38.binds (ps := ["_law_row_here", "_law_order", "_law_demands_here"]) fun _ _ _ _ _ _ us hl => match us, hl with | [_, _, _], _ => rfl
  obtain ⟨f40, v40, F40, g40, p40, e40⟩ := d40.use X G
  have B40 := F40.binds (ps := ["_law_row_here", "_law_order", "_law_demands_here"]) fun _ _ _ _ _ _ us hl => match us, hl with | [_, _, _], _ => rfl
  obtain ⟨f15, v15, F15, g15, p15, e15⟩ := d15.use X G
  have B15 := F15.binds (ps := ["row", "value"]) fun _ _ _ _ _ _ us hl => match us, hl with | [_, _], _ => rfl
  obtain ⟨f19, v19, F19, g19, p19, e19⟩ := d19.use X G
  have B19 := F19.binds (ps := ["row", "order"]) fun _ _ _ _ _ _ us hl => match us, hl with | [_, _], _ => rfl
  obtain ⟨f10, v10, F10, g10, p10, e10⟩ := d10.use X G
  have B10 := F10.binds (ps := ["row"]) fun _ _ _ _ _ _ us hl => match us, hl with | [_], _ => rfl
  obtain ⟨f20, v20, F20, g20, p20, e20⟩ := d20.use X G
  have B20 := F20.binds (ps := ["row", "places"]) fun _ _ _ _ _ _ us hl => match us, hl with | [_, _], _ => rfl
  obtain ⟨f22, v22, F22, g22, p22, e22⟩ := d22.use X G
  have B22 := F22.binds (ps := ["row", "order"]) fun _ _ _ _ _ _ us hl => match us, hl with | [_, _], _ => rfl
  obtain ⟨f16, v16, F16, g16, p16, e16⟩ := d16.use X G
  have B16 := F16.binds (ps := ["row", "value"]) fun _ _ _ _ _ _ us hl => match us, hl with | [_, _], _ => rfl
  obtain ⟨f17, v17, F17, g17, p17, e17⟩ := d17.use X G
  have B17 := F17.binds (ps := ["row", "value"]) fun _ _ _ _ _ _ us hl => match us, hl with | [_, _], _ => rfl
  obtain ⟨f18, v18, F18, g18, p18, e18⟩ := d18.use X G
  have B18 := F18.binds (ps := ["row", "value"]) fun _ _ _ _ _ _ us hl => match us, hl with | [_, _], _ => rfl
  obtain ⟨f23, v23, F23, g23, p23, e23⟩ := d23.use X G
  have B23 := F23.binds (ps := ["row", "order", "demands"]) fun _ _ _ _ _ _ us hl => match us, hl with | [_, _, _], _ => rfl
  obtain ⟨f24, v24, F24, g24, p24, e24⟩ := d24.use X G
  have B24 := F24.binds (ps := ["row", "order", "demands"]) fun _ _ _ _ _ _ us hl => match us, hl with | [_, _, _], _ => rfl
  obtain ⟨f11, v11, F11, g11, p11, e11⟩ := d11.use X G
  have B11 := F11.binds (ps := ["counts"]) fun _ _ _ _ _ _ us hl => match us, hl with | [_], _ => rfl
  obtain ⟨f25, v25, F25, g25, p25, ⟨ds25, hv25, bb25⟩, bk25⟩ := d25.use (ps := ["row", "order", "demands"]) X G (fun _ _ _ _ _ _ us _ hl => match us, hl with | [_, _, _], _ => ⟨_, _, _, _, _, _, rfl, rfl, rfl⟩) (fun _ _ _ _ _ _ us _ hl => match us, hl with | [_, _, _], _ => rfl)
  obtain ⟨C_BadDemand, R_BadDemand⟩ := R_BadDemand.ex
  obtain ⟨C_NoOrder, R_NoOrder⟩ := R_NoOrder.ex
  obtain ⟨C_Impossible, R_Impossible⟩ := R_Impossible.ex
  obtain ⟨C_Stairs, KC_Stairs⟩ := KL_Stairs.ex
  have k_BadDemand : (clsOf [("BadDemand", C_BadDemand), ("NoOrder", C_NoOrder), ("Impossible", C_Impossible), ("Stairs", C_Stairs)] fa) "BadDemand" = C_BadDemand := clsOf_hd
  have k_NoOrder : (clsOf [("BadDemand", C_BadDemand), ("NoOrder", C_NoOrder), ("Impossible", C_Impossible), ("Stairs", C_Stairs)] fa) "NoOrder" = C_NoOrder := (clsOf_tl (by decide +kernel)).trans (clsOf_hd)
  have k_Impossible : (clsOf [("BadDemand", C_BadDemand), ("NoOrder", C_NoOrder), ("Impossible", C_Impossible), ("Stairs", C_Stairs)] fa) "Impossible" = C_Impossible := (clsOf_tl (by decide +kernel)).trans ((clsOf_tl (by decide +kernel)).trans (clsOf_hd))
  have k_Stairs : (clsOf [("BadDemand", C_BadDemand), ("NoOrder", C_NoOrder), ("Impossible", C_Impossible), ("Stairs", C_Stairs)] fa) "Stairs" = C_Stairs := (clsOf_tl (by decide +kernel)).trans ((clsOf_tl (by decide +kernel)).trans ((clsOf_tl (by decide +kernel)).trans (clsOf_hd)))
  refine ⟨PySem.W.fnOf "law" "law" (defArgs (topS 42)) (defBody (topS 42)) (defScope (topS 42)) .none kV doc pm an cdv ct, fun s v => .of_eq rfl, fun base _ _ => ?_⟩
  have O28 : FnOk l.prog w K mg base (L2.CX l.prog w) 1 f28 v28 ["_law_gear_here", "_law_many"] spTooth := ok_tooth F28
  have O27 : FnOk l.prog w K mg base (L2.CX l.prog w) 1 f27 v27 ["_law_script"] (spGear K) := ok_gear (k := 0) F27 y_abs y_int
  refine lawX (fun r => gearB (clsOf [("BadDemand", C_BadDemand), ("NoOrder", C_NoOrder), ("Impossible", C_Impossible), ("Stairs", C_Stairs)] fa) r) (fun r => r) (fun a ns H Q E h1 h2 h3 => ⟨a, ns, rfl, h1, h2, h3⟩) (i := 1) (k := 6) (t := fun x => t_law (S_g_row x) S_g_events (S_g_word x) (S_g_demands x) S_law_due_far S_law_due S_arrival_ranges S_meeting_word) (fun_mk (st := topS 42) ql qc qp) sc_law rfl O27 g27 p27 B27 (by omega) (by decide) rfl rfl (by first | exact .inl rfl | exact .inr rfl) rfl rfl (fun r cdv A outer s H E hr hgd tk => ?_) l_law
  have RI_BadDemand : RaiI K ((gearB (clsOf [("BadDemand", C_BadDemand), ("NoOrder", C_NoOrder), ("Impossible", C_Impossible), ("Stairs", C_Stairs)] fa) r).cls "BadDemand") "BadDemand" "BadDemand.__init__" "index" s_BadDemand := by
    show RaiI K ((clsOf [("BadDemand", C_BadDemand), ("NoOrder", C_NoOrder), ("Impossible", C_Impossible), ("Stairs", C_Stairs)] fa) "BadDemand") _ _ _ _
    rw [k_BadDemand]; exact R_BadDemand
  have RB_BadDemand := RI_BadDemand.b
  obtain ⟨M_BadDemand⟩ := RI_BadDemand.mk1 (P := l.prog) (w := w) (base := base) (prm := "index") X G (fun fa fd F => wi_BadDemand F) (fun _ _ _ _ _ _ us hl => match us, hl with | [_, _], _ => rfl)
  have RZ_NoOrder : RaiB K ((gearB (clsOf [("BadDemand", C_BadDemand), ("NoOrder", C_NoOrder), ("Impossible", C_Impossible), ("Stairs", C_Stairs)] fa) r).cls "NoOrder") "NoOrder" ∧ PySem.W.excIn K ((gearB (clsOf [("BadDemand", C_BadDemand), ("NoOrder", C_NoOrder), ("Impossible", C_Impossible), ("Stairs", C_Stairs)] fa) r).cls "NoOrder") veB "ValueError.__new__" = true := by
    show RaiB K ((clsOf [("BadDemand", C_BadDemand), ("NoOrder", C_NoOrder), ("Impossible", C_Impossible), ("Stairs", C_Stairs)] fa) "NoOrder") _ ∧ PySem.W.excIn K ((clsOf [("BadDemand", C_BadDemand), ("NoOrder", C_NoOrder), ("Impossible", C_Impossible), ("Stairs", C_Stairs)] fa) "NoOrder") _ _ = true
    rw [k_NoOrder]; exact R_NoOrder
  have RB_NoOrder := RZ_NoOrder.1
  have M_NoOrder := RB_NoOrder.mk0 RZ_NoOrder.2 X G
  have RZ_Impossible : RaiB K ((gearB (clsOf [("BadDemand", C_BadDemand), ("NoOrder", C_NoOrder), ("Impossible", C_Impossible), ("Stairs", C_Stairs)] fa) r).cls "Impossible") "Impossible" ∧ PySem.W.excIn K ((gearB (clsOf [("BadDemand", C_BadDemand), ("NoOrder", C_NoOrder), ("Impossible", C_Impossible), ("Stairs", C_Stairs)] fa) r).cls "Impossible") veB "ValueError.__new__" = true := by
    show RaiB K ((clsOf [("BadDemand", C_BadDemand), ("NoOrder", C_NoOrder), ("Impossible", C_Impossible), ("Stairs", C_Stairs)] fa) "Impossible") _ ∧ PySem.W.excIn K ((clsOf [("BadDemand", C_BadDemand), ("NoOrder", C_NoOrder), ("Impossible", C_Impossible), ("Stairs", C_Stairs)] fa) "Impossible") _ _ = true
    rw [k_Impossible]; exact R_Impossible
  have RB_Impossible := RZ_Impossible.1
  have M_Impossible := RB_Impossible.mk0 RZ_Impossible.2 X G
  have RL_Stairs : ClsB K ((gearB (clsOf [("BadDemand", C_BadDemand), ("NoOrder", C_NoOrder), ("Impossible", C_Impossible), ("Stairs", C_Stairs)] fa) r).cls "Stairs") "Stairs" "Stairs.__init__" s_Stairs_init := by
    show ClsB K ((clsOf [("BadDemand", C_BadDemand), ("NoOrder", C_NoOrder), ("Impossible", C_Impossible), ("Stairs", C_Stairs)] fa) "Stairs") _ _ _
    rw [k_Stairs]; exact KC_Stairs
  have CL_Stairs := RL_Stairs.c
  obtain ⟨f22000, v22000, F22000, MK22000⟩ := RL_Stairs.ini
  have B22000 := F22000.binds (ps := ["self", "places", "demands"]) fun _ _ _ _ _ _ us hl => match us, hl with | [_, _, _], _ => rfl
  have NA_Stairs_low := KN_Stairs_low.at RL_Stairs.ns
  have NA_Stairs_high := KN_Stairs_high.at RL_Stairs.ns
  have NA_Stairs_places := KN_Stairs_places.at RL_Stairs.ns
  obtain ⟨f22001, v22001, F22001, MT22001⟩ := KM_Stairs_is_open.at RL_Stairs.ns
  have B22001 := F22001.binds (ps := ["self"]) fun _ _ _ _ _ _ us hl => match us, hl with | [_], _ => rfl
  have EB : ∀ n ∈ (["BadDemand", "NoOrder", "Impossible"] : List Str), RaiB K ((gearB (clsOf [("BadDemand", C_BadDemand), ("NoOrder", C_NoOrder), ("Impossible", C_Impossible), ("Stairs", C_Stairs)] fa) r).cls n) n := fun n hn => by
    simp only [List.mem_cons, List.not_mem_nil, or_false] at hn
    rcases hn with rfl | rfl | rfl
    · exact RB_BadDemand
    · exact RB_NoOrder
    · exact RB_Impossible
  have EC : ∀ n ∈ (["BadDemand", "NoOrder", "Impossible"] : List Str), ErrC K ((gearB (clsOf [("BadDemand", C_BadDemand), ("NoOrder", C_NoOrder), ("Impossible", C_Impossible), ("Stairs", C_Stairs)] fa) r).cls n) := fun n hn => (EB n hn).ec
  have C28 : Cal l.prog w K mg base (gearB (clsOf [("BadDemand", C_BadDemand), ("NoOrder", C_NoOrder), ("Impossible", C_Impossible), ("Stairs", C_Stairs)] fa) r) 1 "_law_tooth" ["_law_gear_here", "_law_many"] (svTake r) := ⟨f28, v28, (tooth_v (cls := (clsOf [("BadDemand", C_BadDemand), ("NoOrder", C_NoOrder), ("Impossible", C_Impossible), ("Stairs", C_Stairs)] fa)) (r := r) O28), g28, p28, B28⟩
  have C29 : Cal l.prog w K mg base (gearB (clsOf [("BadDemand", C_BadDemand), ("NoOrder", C_NoOrder), ("Impossible", C_Impossible), ("Stairs", C_Stairs)] fa) r) 2 "_law_row" ["_law_gear_here", "_law_upto"] (S_g_row r) := ⟨f29, v29, w_g_row F29 C28 y_range y_tuple (fun ds Q E h => by first | (simp only [S_g_row] at h; split at h <;> first | rfl | exact h.elim) | (obtain ⟨rfl, _⟩ := h; rfl) | (obtain ⟨_, rfl, _⟩ := h; rfl) | (obtain ⟨_, _, rfl, _⟩ := h; rfl) | (obtain ⟨_, _, _, rfl, _⟩ := h; rfl) | (obtain ⟨_, _, _, _, rfl, _⟩ := h; rfl) | (obtain ⟨_, _, _, _, _, rfl, _⟩ := h; rfl) | (obtain ⟨_, _, _, _, _, _, rfl, _⟩ := h; rfl)) (l_g_row r), g29, p29, B29⟩
  have C31 : Cal l.prog w K mg base (gearB (clsOf [("BadDemand", C_BadDemand), ("NoOrder", C_NoOrder), ("Impossible", C_Impossible), ("Stairs", C_Stairs)] fa) r) 1 "_law_events" ["_law_row_here", "_law_word_here"] S_g_events := ⟨f31, v31, w_g_events F31 y_len y_enumerate y_tuple (fun ds Q E h => by first | (simp only [S_g_events] at h; split at h <;> first | rfl | exact h.elim) | (obtain ⟨rfl, _⟩ := h; rfl) | (obtain ⟨_, rfl, _⟩ := h; rfl) | (obtain ⟨_, _, rfl, _⟩ := h; rfl) | (obtain ⟨_, _, _, rfl, _⟩ := h; rfl) | (obtain ⟨_, _, _, _, rfl, _⟩ := h; rfl) | (obtain ⟨_, _, _, _, _, rfl, _⟩ := h; rfl) | (obtain ⟨_, _, _, _, _, _, rfl, _⟩ := h; rfl)) l_g_events, g31, p31, B31⟩
  have C36 : Cal l.prog w K mg base (gearB (clsOf [("BadDemand", C_BadDemand), ("NoOrder", C_NoOrder), ("Impossible", C_Impossible), ("Stairs", C_Stairs)] fa) r) 2 "_law_demand" ["_law_gear_here", "_law_row_here"] (S_g_demand r) := ⟨f36, v36, w_g_demand F36 C28 y_len (fun ds Q E h => by first | (simp only [S_g_demand] at h; split at h <;> first | rfl | exact h.elim) | (obtain ⟨rfl, _⟩ := h; rfl) | (obtain ⟨_, rfl, _⟩ := h; rfl) | (obtain ⟨_, _, rfl, _⟩ := h; rfl) | (obtain ⟨_, _, _, rfl, _⟩ := h; rfl) | (obtain ⟨_, _, _, _, rfl, _⟩ := h; rfl) | (obtain ⟨_, _, _, _, _, rfl, _⟩ := h; rfl) | (obtain ⟨_, _, _, _, _, _, rfl, _⟩ := h; rfl)) (l_g_demand r), g36, p36, B36⟩
  have C32 : Cal l.prog w K mg base (gearB (clsOf [("BadDemand", C_BadDemand), ("NoOrder", C_NoOrder), ("Impossible", C_Impossible), ("Stairs", C_Stairs)] fa) r) 1 "_law_meets" ["_law_events_here", "_law_demand_here"] S_g_meets := ⟨f32, v32, w_g_meets F32 (fun ds Q E h => by first | (simp only [S_g_meets] at h; split at h <;> first | rfl | exact h.elim) | (obtain ⟨rfl, _⟩ := h; rfl) | (obtain ⟨_, rfl, _⟩ := h; rfl) | (obtain ⟨_, _, rfl, _⟩ := h; rfl) | (obtain ⟨_, _, _, rfl, _⟩ := h; rfl) | (obtain ⟨_, _, _, _, rfl, _⟩ := h; rfl) | (obtain ⟨_, _, _, _, _, rfl, _⟩ := h; rfl) | (obtain ⟨_, _, _, _, _, _, rfl, _⟩ := h; rfl)) l_g_meets, g32, p32, B32⟩
  have C37 : Cal l.prog w K mg base (gearB (clsOf [("BadDemand", C_BadDemand), ("NoOrder", C_NoOrder), ("Impossible", C_Impossible), ("Stairs", C_Stairs)] fa) r) 3 "_law_demands" ["_law_gear_here", "_law_row_here", "_law_events_here", "_law_upto"] (S_g_demands r) := ⟨f37, v37, w_g_demands F37 C28 C36 C32 y_range y_int y_tuple (fun ds Q E h => by first | (simp only [S_g_demands] at h; split at h <;> first | rfl | exact h.elim) | (obtain ⟨rfl, _⟩ := h; rfl) | (obtain ⟨_, rfl, _⟩ := h; rfl) | (obtain ⟨_, _, rfl, _⟩ := h; rfl) | (obtain ⟨_, _, _, rfl, _⟩ := h; rfl) | (obtain ⟨_, _, _, _, rfl, _⟩ := h; rfl) | (obtain ⟨_, _, _, _, _, rfl, _⟩ := h; rfl) | (obtain ⟨_, _, _, _, _, _, rfl, _⟩ := h; rfl)) (l_g_demands r), g37, p37, B37⟩
  have C30 : Cal l.prog w K mg base (gearB (clsOf [("BadDemand", C_BadDemand), ("NoOrder", C_NoOrder), ("Impossible", C_Impossible), ("Stairs", C_Stairs)] fa) r) 2 "_law_word" ["_law_gear_here", "_law_count"] (S_g_word r) := ⟨f30, v30, w_g_word F30 C28 (fun ds Q E h => by first | (simp only [S_g_word] at h; split at h <;> first | rfl | exact h.elim) | (obtain ⟨rfl, _⟩ := h; rfl) | (obtain ⟨_, rfl, _⟩ := h; rfl) | (obtain ⟨_, _, rfl, _⟩ := h; rfl) | (obtain ⟨_, _, _, rfl, _⟩ := h; rfl) | (obtain ⟨_, _, _, _, rfl, _⟩ := h; rfl) | (obtain ⟨_, _, _, _, _, rfl, _⟩ := h; rfl) | (obtain ⟨_, _, _, _, _, _, rfl, _⟩ := h; rfl)) (l_g_word r), g30, p30, B30⟩
  have C39 : Cal l.prog w K mg base (gearB (clsOf [("BadDemand", C_BadDemand), ("NoOrder", C_NoOrder), ("Impossible", C_Impossible), ("Stairs", C_Stairs)] fa) r) 1 "_law_stairs" ["_law_row_here", "_law_order", "_law_demands_here"] S_g_stairs := ⟨f39, v39, w_g_stairs F39 y_len y_range y_min y_max (fun ds Q E h => by first | (simp only [S_g_stairs] at h; split at h <;> first | rfl | exact h.elim) | (obtain ⟨rfl, _⟩ := h; rfl) | (obtain ⟨_, rfl, _⟩ := h; rfl) | (obtain ⟨_, _, rfl, _⟩ := h; rfl) | (obtain ⟨_, _, _, rfl, _⟩ := h; rfl) | (obtain ⟨_, _, _, _, rfl, _⟩ := h; rfl) | (obtain ⟨_, _, _, _, _, rfl, _⟩ := h; rfl) | (obtain ⟨_, _, _, _, _, _, rfl, _⟩ := h; rfl)) l_g_stairs, g39, p39, B39⟩
  have C41 : Cal l.prog w K mg base (gearB (clsOf [("BadDemand", C_BadDemand), ("NoOrder", C_NoOrder), ("Impossible", C_Impossible), ("Stairs", C_Stairs)] fa) r) 2 "_law_due_far" ["_law_row_here", "_law_order", "_law_demands_here"] S_law_due_far := ⟨f41, v41, w_law_due_far F41 C39 y_tuple y_range y_len (fun ds Q E h => by first | (simp only [S_law_due_far] at h; split at h <;> first | rfl | exact h.elim) | (obtain ⟨rfl, _⟩ := h; rfl) | (obtain ⟨_, rfl, _⟩ := h; rfl) | (obtain ⟨_, _, rfl, _⟩ := h; rfl) | (obtain ⟨_, _, _, rfl, _⟩ := h; rfl) | (obtain ⟨_, _, _, _, rfl, _⟩ := h; rfl) | (obtain ⟨_, _, _, _, _, rfl, _⟩ := h; rfl) | (obtain ⟨_, _, _, _, _, _, rfl, _⟩ := h; rfl)) l_law_due_far, g41, p41, B41⟩
  have C34 : Cal l.prog w K mg base (gearB (clsOf [("BadDemand", C_BadDemand), ("NoOrder", C_NoOrder), ("Impossible", C_Impossible), ("Stairs", C_Stairs)] fa) r) 1 "_law_counts" ["_law_word_here"] S_g_counts := ⟨f34, v34, w_g_counts F34 y_tuple y_enumerate (fun ds Q E h => by first | (simp only [S_g_counts] at h; split at h <;> first | rfl | exact h.elim) | (obtain ⟨rfl, _⟩ := h; rfl) | (obtain ⟨_, rfl, _⟩ := h; rfl) | (obtain ⟨_, _, rfl, _⟩ := h; rfl) | (obtain ⟨_, _, _, rfl, _⟩ := h; rfl) | (obtain ⟨_, _, _, _, rfl, _⟩ := h; rfl) | (obtain ⟨_, _, _, _, _, rfl, _⟩ := h; rfl) | (obtain ⟨_, _, _, _, _, _, rfl, _⟩ := h; rfl)) l_g_counts, g34, p34, B34⟩
  have C35 : Cal l.prog w K mg base (gearB (clsOf [("BadDemand", C_BadDemand), ("NoOrder", C_NoOrder), ("Impossible", C_Impossible), ("Stairs", C_Stairs)] fa) r) 2 "_law_all" ["_law_row_here"] S_g_all := ⟨f35, v35, w_g_all F35 C34 C31 y_range y_len y_sorted (fun ds Q E h => by first | (simp only [S_g_all] at h; split at h <;> first | rfl | exact h.elim) | (obtain ⟨rfl, _⟩ := h; rfl) | (obtain ⟨_, rfl, _⟩ := h; rfl) | (obtain ⟨_, _, rfl, _⟩ := h; rfl) | (obtain ⟨_, _, _, rfl, _⟩ := h; rfl) | (obtain ⟨_, _, _, _, rfl, _⟩ := h; rfl) | (obtain ⟨_, _, _, _, _, rfl, _⟩ := h; rfl) | (obtain ⟨_, _, _, _, _, _, rfl, _⟩ := h; rfl)) l_g_all, g35, p35, B35⟩
  have C33 : Cal l.prog w K mg base (gearB (clsOf [("BadDemand", C_BadDemand), ("NoOrder", C_NoOrder), ("Impossible", C_Impossible), ("Stairs", C_Stairs)] fa) r) 2 "_law_missed" ["_law_events_here", "_law_demands_here"] S_g_missed := ⟨f33, v33, w_g_missed F33 C32 (fun ds Q E h => by first | (simp only [S_g_missed] at h; split at h <;> first | rfl | exact h.elim) | (obtain ⟨rfl, _⟩ := h; rfl) | (obtain ⟨_, rfl, _⟩ := h; rfl) | (obtain ⟨_, _, rfl, _⟩ := h; rfl) | (obtain ⟨_, _, _, rfl, _⟩ := h; rfl) | (obtain ⟨_, _, _, _, rfl, _⟩ := h; rfl) | (obtain ⟨_, _, _, _, _, rfl, _⟩ := h; rfl) | (obtain ⟨_, _, _, _, _, _, rfl, _⟩ := h; rfl)) l_g_missed, g33, p33, B33⟩
  have C38 : Cal l.prog w K mg base (gearB (clsOf [("BadDemand", C_BadDemand), ("NoOrder", C_NoOrder), ("Impossible", C_Impossible), ("Stairs", C_Stairs)] fa) r) 3 "_law_meeting" ["_law_row_here", "_law_order", "_law_demands_here"] S_g_meeting := ⟨f38, v38, w_g_meeting F38 C35 C33 (fun ds Q E h => by first | (simp only [S_g_meeting] at h; split at h <;> first | rfl | exact h.elim) | (obtain ⟨rfl, _⟩ := h; rfl) | (obtain ⟨_, rfl, _⟩ := h; rfl) | (obtain ⟨_, _, rfl, _⟩ := h; rfl) | (obtain ⟨_, _, _, rfl, _⟩ := h; rfl) | (obtain ⟨_, _, _, _, rfl, _⟩ := h; rfl) | (obtain ⟨_, _, _, _, _, rfl, _⟩ := h; rfl) | (obtain ⟨_, _, _, _, _, _, rfl, _⟩ := h; rfl)) l_g_meeting, g38, p38, B38⟩
  have C40 : Cal l.prog w K mg base (gearB (clsOf [("BadDemand", C_BadDemand), ("NoOrder", C_NoOrder), ("Impossible", C_Impossible), ("Stairs", C_Stairs)] fa) r) 4 "_law_due" ["_law_row_here", "_law_order", "_law_demands_here"] S_law_due := ⟨f40, v40, w_law_due F40 C38 y_range y_len y_min y_max y_tuple (fun ds Q E h => by first | (simp only [S_law_due] at h; split at h <;> first | rfl | exact h.elim) | (obtain ⟨rfl, _⟩ := h; rfl) | (obtain ⟨_, rfl, _⟩ := h; rfl) | (obtain ⟨_, _, rfl, _⟩ := h; rfl) | (obtain ⟨_, _, _, rfl, _⟩ := h; rfl) | (obtain ⟨_, _, _, _, rfl, _⟩ := h; rfl) | (obtain ⟨_, _, _, _, _, rfl, _⟩ := h; rfl) | (obtain ⟨_, _, _, _, _, _, rfl, _⟩ := h; rfl)) l_law_due, g40, p40, B40⟩
  have C15 : Cal l.prog w K mg base (gearB (clsOf [("BadDemand", C_BadDemand), ("NoOrder", C_NoOrder), ("Impossible", C_Impossible), ("Stairs", C_Stairs)] fa) r) 1 "is_person" ["row", "value"] S_is_person := ⟨f15, v15, w_is_person F15 y_len y_isinstance y_bool y_int (fun ds Q E h => by first | (simp only [S_is_person] at h; split at h <;> first | rfl | exact h.elim) | (obtain ⟨rfl, _⟩ := h; rfl) | (obtain ⟨_, rfl, _⟩ := h; rfl) | (obtain ⟨_, _, rfl, _⟩ := h; rfl) | (obtain ⟨_, _, _, rfl, _⟩ := h; rfl) | (obtain ⟨_, _, _, _, rfl, _⟩ := h; rfl) | (obtain ⟨_, _, _, _, _, rfl, _⟩ := h; rfl) | (obtain ⟨_, _, _, _, _, _, rfl, _⟩ := h; rfl)) l_is_person, g15, p15, B15⟩
  have C19 : Cal l.prog w K mg base (gearB (clsOf [("BadDemand", C_BadDemand), ("NoOrder", C_NoOrder), ("Impossible", C_Impossible), ("Stairs", C_Stairs)] fa) r) 2 "places_of" ["row", "order"] S_places_of := ⟨f19, v19, w_places_of F19 C15 y_isinstance y_tuple y_all y_sorted y_len y_list y_range M_NoOrder (fun ds Q E h => by first | (simp only [S_places_of] at h; split at h <;> first | rfl | exact h.elim) | (obtain ⟨rfl, _⟩ := h; rfl) | (obtain ⟨_, rfl, _⟩ := h; rfl) | (obtain ⟨_, _, rfl, _⟩ := h; rfl) | (obtain ⟨_, _, _, rfl, _⟩ := h; rfl) | (obtain ⟨_, _, _, _, rfl, _⟩ := h; rfl) | (obtain ⟨_, _, _, _, _, rfl, _⟩ := h; rfl) | (obtain ⟨_, _, _, _, _, _, rfl, _⟩ := h; rfl)) l_places_of, g19, p19, B19⟩
  have C10 : Cal l.prog w K mg base (gearB (clsOf [("BadDemand", C_BadDemand), ("NoOrder", C_NoOrder), ("Impossible", C_Impossible), ("Stairs", C_Stairs)] fa) r) 1 "mates" ["row"] S_mates := ⟨f10, v10, w_mates F10 y_enumerate y_tuple (fun ds Q E h => by first | (simp only [S_mates] at h; split at h <;> first | rfl | exact h.elim) | (obtain ⟨rfl, _⟩ := h; rfl) | (obtain ⟨_, rfl, _⟩ := h; rfl) | (obtain ⟨_, _, rfl, _⟩ := h; rfl) | (obtain ⟨_, _, _, rfl, _⟩ := h; rfl) | (obtain ⟨_, _, _, _, rfl, _⟩ := h; rfl) | (obtain ⟨_, _, _, _, _, rfl, _⟩ := h; rfl) | (obtain ⟨_, _, _, _, _, _, rfl, _⟩ := h; rfl)) l_mates, g10, p10, B10⟩
  have C20 : Cal l.prog w K mg base (gearB (clsOf [("BadDemand", C_BadDemand), ("NoOrder", C_NoOrder), ("Impossible", C_Impossible), ("Stairs", C_Stairs)] fa) r) 2 "own_demands" ["row", "places"] S_own_demands := ⟨f20, v20, w_own_demands F20 C10 ⟨_, c0⟩ ⟨_, c1⟩ y_range y_len y_enumerate y_all y_sorted (fun ds Q E h => by first | (simp only [S_own_demands] at h; split at h <;> first | rfl | exact h.elim) | (obtain ⟨rfl, _⟩ := h; rfl) | (obtain ⟨_, rfl, _⟩ := h; rfl) | (obtain ⟨_, _, rfl, _⟩ := h; rfl) | (obtain ⟨_, _, _, rfl, _⟩ := h; rfl) | (obtain ⟨_, _, _, _, rfl, _⟩ := h; rfl) | (obtain ⟨_, _, _, _, _, rfl, _⟩ := h; rfl) | (obtain ⟨_, _, _, _, _, _, rfl, _⟩ := h; rfl)) l_own_demands, g20, p20, B20⟩
  have C22001 : CalM l.prog w K mg base (gearB (clsOf [("BadDemand", C_BadDemand), ("NoOrder", C_NoOrder), ("Impossible", C_Impossible), ("Stairs", C_Stairs)] fa) r) 1 "Stairs" "is_open" ["self"] S_Stairs_is_open := ⟨f22001, v22001, w_Stairs_is_open F22001 y_all y_zip CL_Stairs NA_Stairs_low NA_Stairs_high (fun ds Q E h => by first | (simp only [S_Stairs_is_open] at h; split at h <;> first | rfl | exact h.elim) | (obtain ⟨rfl, _⟩ := h; rfl) | (obtain ⟨_, rfl, _⟩ := h; rfl) | (obtain ⟨_, _, rfl, _⟩ := h; rfl) | (obtain ⟨_, _, _, rfl, _⟩ := h; rfl) | (obtain ⟨_, _, _, _, rfl, _⟩ := h; rfl) | (obtain ⟨_, _, _, _, _, rfl, _⟩ := h; rfl) | (obtain ⟨_, _, _, _, _, _, rfl, _⟩ := h; rfl)) l_Stairs_is_open, CL_Stairs, MT22001, B22001⟩
  have C22000 : CalI l.prog w K mg base (gearB (clsOf [("BadDemand", C_BadDemand), ("NoOrder", C_NoOrder), ("Impossible", C_Impossible), ("Stairs", C_Stairs)] fa) r) 1 "Stairs" ["self", "places", "demands"] S_Stairs_init := ⟨f22000, v22000, w_Stairs_init F22000 ⟨_, c1⟩ y_len y_list y_range y_max y_min CL_Stairs NA_Stairs_places NA_Stairs_low NA_Stairs_high (fun ds Q E h => by first | (simp only [S_Stairs_init] at h; split at h <;> first | rfl | exact h.elim) | (obtain ⟨rfl, _⟩ := h; rfl) | (obtain ⟨_, rfl, _⟩ := h; rfl) | (obtain ⟨_, _, rfl, _⟩ := h; rfl) | (obtain ⟨_, _, _, rfl, _⟩ := h; rfl) | (obtain ⟨_, _, _, _, rfl, _⟩ := h; rfl) | (obtain ⟨_, _, _, _, _, rfl, _⟩ := h; rfl) | (obtain ⟨_, _, _, _, _, _, rfl, _⟩ := h; rfl)) l_Stairs_init, MK22000, PySem.W.mg_of X G RL_Stairs.ns, B22000⟩
  have C22 : Cal l.prog w K mg base (gearB (clsOf [("BadDemand", C_BadDemand), ("NoOrder", C_NoOrder), ("Impossible", C_Impossible), ("Stairs", C_Stairs)] fa) r) 3 "order_demands" ["row", "order"] S_order_demands := ⟨f22, v22, w_order_demands F22 C19 C20 C22001 C22000 y_tuple M_Impossible (fun ds Q E h => by first | (simp only [S_order_demands] at h; split at h <;> first | rfl | exact h.elim) | (obtain ⟨rfl, _⟩ := h; rfl) | (obtain ⟨_, rfl, _⟩ := h; rfl) | (obtain ⟨_, _, rfl, _⟩ := h; rfl) | (obtain ⟨_, _, _, rfl, _⟩ := h; rfl) | (obtain ⟨_, _, _, _, rfl, _⟩ := h; rfl) | (obtain ⟨_, _, _, _, _, rfl, _⟩ := h; rfl) | (obtain ⟨_, _, _, _, _, _, rfl, _⟩ := h; rfl)) l_order_demands, g22, p22, B22⟩
  have C16 : Cal l.prog w K mg base (gearB (clsOf [("BadDemand", C_BadDemand), ("NoOrder", C_NoOrder), ("Impossible", C_Impossible), ("Stairs", C_Stairs)] fa) r) 2 "is_demand" ["row", "value"] S_is_demand := ⟨f16, v16, w_is_demand F16 C15 ⟨_, c0⟩ ⟨_, c1⟩ y_isinstance y_tuple y_len y_str (fun ds Q E h => by first | (simp only [S_is_demand] at h; split at h <;> first | rfl | exact h.elim) | (obtain ⟨rfl, _⟩ := h; rfl) | (obtain ⟨_, rfl, _⟩ := h; rfl) | (obtain ⟨_, _, rfl, _⟩ := h; rfl) | (obtain ⟨_, _, _, rfl, _⟩ := h; rfl) | (obtain ⟨_, _, _, _, rfl, _⟩ := h; rfl) | (obtain ⟨_, _, _, _, _, rfl, _⟩ := h; rfl) | (obtain ⟨_, _, _, _, _, _, rfl, _⟩ := h; rfl)) l_is_demand, g16, p16, B16⟩
  have C17 : Cal l.prog w K mg base (gearB (clsOf [("BadDemand", C_BadDemand), ("NoOrder", C_NoOrder), ("Impossible", C_Impossible), ("Stairs", C_Stairs)] fa) r) 3 "demands_error" ["row", "value"] S_demands_error := ⟨f17, v17, w_demands_error F17 C16 ⟨_, c2⟩ y_isinstance y_tuple y_len y_enumerate (fun ds Q E h => by first | (simp only [S_demands_error] at h; split at h <;> first | rfl | exact h.elim) | (obtain ⟨rfl, _⟩ := h; rfl) | (obtain ⟨_, rfl, _⟩ := h; rfl) | (obtain ⟨_, _, rfl, _⟩ := h; rfl) | (obtain ⟨_, _, _, rfl, _⟩ := h; rfl) | (obtain ⟨_, _, _, _, rfl, _⟩ := h; rfl) | (obtain ⟨_, _, _, _, _, rfl, _⟩ := h; rfl) | (obtain ⟨_, _, _, _, _, _, rfl, _⟩ := h; rfl)) l_demands_error, g17, p17, B17⟩
  have C18 : Cal l.prog w K mg base (gearB (clsOf [("BadDemand", C_BadDemand), ("NoOrder", C_NoOrder), ("Impossible", C_Impossible), ("Stairs", C_Stairs)] fa) r) 4 "require_demands" ["row", "value"] S_require_demands := ⟨f18, v18, w_require_demands F18 C17 M_BadDemand (fun ds Q E h => by first | (simp only [S_require_demands] at h; split at h <;> first | rfl | exact h.elim) | (obtain ⟨rfl, _⟩ := h; rfl) | (obtain ⟨_, rfl, _⟩ := h; rfl) | (obtain ⟨_, _, rfl, _⟩ := h; rfl) | (obtain ⟨_, _, _, rfl, _⟩ := h; rfl) | (obtain ⟨_, _, _, _, rfl, _⟩ := h; rfl) | (obtain ⟨_, _, _, _, _, rfl, _⟩ := h; rfl) | (obtain ⟨_, _, _, _, _, _, rfl, _⟩ := h; rfl)) l_require_demands, g18, p18, B18⟩
  have C23 : Cal l.prog w K mg base (gearB (clsOf [("BadDemand", C_BadDemand), ("NoOrder", C_NoOrder), ("Impossible", C_Impossible), ("Stairs", C_Stairs)] fa) r) 5 "stairs_for" ["row", "order", "demands"] S_stairs_for := ⟨f23, v23, w_stairs_for F23 C22 C18 C22000 C19 (fun ds Q E h => by first | (simp only [S_stairs_for] at h; split at h <;> first | rfl | exact h.elim) | (obtain ⟨rfl, _⟩ := h; rfl) | (obtain ⟨_, rfl, _⟩ := h; rfl) | (obtain ⟨_, _, rfl, _⟩ := h; rfl) | (obtain ⟨_, _, _, rfl, _⟩ := h; rfl) | (obtain ⟨_, _, _, _, rfl, _⟩ := h; rfl) | (obtain ⟨_, _, _, _, _, rfl, _⟩ := h; rfl) | (obtain ⟨_, _, _, _, _, _, rfl, _⟩ := h; rfl)) l_stairs_for, g23, p23, B23⟩
  have C24 : Cal l.prog w K mg base (gearB (clsOf [("BadDemand", C_BadDemand), ("NoOrder", C_NoOrder), ("Impossible", C_Impossible), ("Stairs", C_Stairs)] fa) r) 6 "arrival_ranges" ["row", "order", "demands"] S_arrival_ranges := ⟨f24, v24, w_arrival_ranges F24 C23 C22001 y_tuple y_zip CL_Stairs NA_Stairs_low NA_Stairs_high (fun ds Q E h => by first | (simp only [S_arrival_ranges] at h; split at h <;> first | rfl | exact h.elim) | (obtain ⟨rfl, _⟩ := h; rfl) | (obtain ⟨_, rfl, _⟩ := h; rfl) | (obtain ⟨_, _, rfl, _⟩ := h; rfl) | (obtain ⟨_, _, _, rfl, _⟩ := h; rfl) | (obtain ⟨_, _, _, _, rfl, _⟩ := h; rfl) | (obtain ⟨_, _, _, _, _, rfl, _⟩ := h; rfl) | (obtain ⟨_, _, _, _, _, _, rfl, _⟩ := h; rfl)) l_arrival_ranges, g24, p24, B24⟩
  have C11 : Cal l.prog w K mg base (gearB (clsOf [("BadDemand", C_BadDemand), ("NoOrder", C_NoOrder), ("Impossible", C_Impossible), ("Stairs", C_Stairs)] fa) r) 1 "word_with" ["counts"] S_word_with := ⟨f11, v11, w_word_with F11 ⟨_, c3⟩ ⟨_, c4⟩ y_len (fun ds Q E h => by first | (simp only [S_word_with] at h; split at h <;> first | rfl | exact h.elim) | (obtain ⟨rfl, _⟩ := h; rfl) | (obtain ⟨_, rfl, _⟩ := h; rfl) | (obtain ⟨_, _, rfl, _⟩ := h; rfl) | (obtain ⟨_, _, _, rfl, _⟩ := h; rfl) | (obtain ⟨_, _, _, _, rfl, _⟩ := h; rfl) | (obtain ⟨_, _, _, _, _, rfl, _⟩ := h; rfl) | (obtain ⟨_, _, _, _, _, _, rfl, _⟩ := h; rfl)) l_word_with, g11, p11, B11⟩
  have C25 : CalW l.prog w K mg base (gearB (clsOf [("BadDemand", C_BadDemand), ("NoOrder", C_NoOrder), ("Impossible", C_Impossible), ("Stairs", C_Stairs)] fa) r) 6 "meeting_word" ["row", "order", "demands"] "most" (.bool false) S_meeting_word := ⟨f25, v25, w_meeting_word F25 C23 C22001 C11 CL_Stairs NA_Stairs_high NA_Stairs_low (fun ds Q E h => by first | (simp only [S_meeting_word] at h; split at h <;> first | rfl | exact h.elim) | (obtain ⟨rfl, _⟩ := h; rfl) | (obtain ⟨_, rfl, _⟩ := h; rfl) | (obtain ⟨_, _, rfl, _⟩ := h; rfl) | (obtain ⟨_, _, _, rfl, _⟩ := h; rfl) | (obtain ⟨_, _, _, _, rfl, _⟩ := h; rfl) | (obtain ⟨_, _, _, _, _, rfl, _⟩ := h; rfl) | (obtain ⟨_, _, _, _, _, _, rfl, _⟩ := h; rfl)) l_meeting_word, g25, p25, ⟨_, ds25, hv25, bb25, fun _ _ => by constructor⟩, bk25⟩
  exact w_law C29 C31 C30 C37 C41 C40 C24 C25 y_range y_len y_repr cdv A outer s H E hr hgd tk
end LawP
set_option linter.all false
set_option maxRecDepth 100000
set_option maxHeartbeats 0
open PySem PySem.W PyProof.Rows in
theorem PySem.Challenge.cw_matesline_k40_ranges_and_words_holds : PySem.Challenge.rw_matesline_k40_ranges_and_words.Holds := by
  w_on; o_law; k_head; (case hw => w_witness2)
  k_fill
  refine VL.walkG (l := PySem.Challenge.rw_matesline_k40_ranges_and_words) (n := 63) (k := 7) (x := "_law_script") (sp := fun w => VL.spLaw _) rfl (by decide) rfl ⟨rfl, by decide, by decide⟩ (fun w h Y => PySem.W.kIn_of Y) ?F (fun _ _ a ns hl _ hS => ⟨a, ns, rfl, hS, hl, fun _ => rfl⟩)
  case F =>
    intro w mg fa h KX G hmg
    refine' LawP.all_mk KX G hmg ?d27 ?d28 ?d29 ?d31 ?d36 ?d32 ?d37 ?d30 ?d39 ?d41 ?d34 ?d35 ?d33 ?d38 ?d40 ?d15 ?d19 ?d10 ?d20 ?d22 ?d16 ?d17 ?d18 ?d23 ?d24 ?d11 ?d25 ?d42 ?m0 ?m1 ?m2 ?m3 ?m4 ?z0 ?z1 ?z2 ?z3 ?z4 ?z5 ?z6 ?z7 ?z8 ?z9 ?z10 ?z11 ?z12 ?z13 ?z14 ?z15 ?r0 ?r1 ?r2 ?kl0 ?kn0 ?kn1 ?kn2 ?km0
    (case d27 => refine' VL.defK ?a ?l ?c ?k; (case a => k_is); (case l => k_is); (case c => k_is); (case k => k_is))
    (case d28 => refine' VL.defK ?a ?l ?c ?k; (case a => k_is); (case l => k_is); (case c => k_is); (case k => k_is))
    (case d29 => refine' VL.defK ?a ?l ?c ?k; (case a => k_is); (case l => k_is); (case c => k_is); (case k => k_is))
    (case d31 => refine' VL.defK ?a ?l ?c ?k; (case a => k_is); (case l => k_is); (case c => k_is); (case k => k_is))
    (case d36 => refine' VL.defK ?a ?l ?c ?k; (case a => k_is); (case l => k_is); (case c => k_is); (case k => k_is))
    (case d32 => refine' VL.defK ?a ?l ?c ?k; (case a => k_is); (case l => k_is); (case c => k_is); (case k => k_is))
    (case d37 => refine' VL.defK ?a ?l ?c ?k; (case a => k_is); (case l => k_is); (case c => k_is); (case k => k_is))
    (case d30 => refine' VL.defK ?a ?l ?c ?k; (case a => k_is); (case l => k_is); (case c => k_is); (case k => k_is))
    (case d39 => refine' VL.defK ?a ?l ?c ?k; (case a => k_is); (case l => k_is); (case c => k_is); (case k => k_is))
    (case d41 => refine' VL.defK ?a ?l ?c ?k; (case a => k_is); (case l => k_is); (case c => k_is); (case k => k_is))
    (case d34 => refine' VL.defK ?a ?l ?c ?k; (case a => k_is); (case l => k_is); (case c => k_is); (case k => k_is))
    (case d35 => refine' VL.defK ?a ?l ?c ?k; (case a => k_is); (case l => k_is); (case c => k_is); (case k => k_is))
    (case d33 => refine' VL.defK ?a ?l ?c ?k; (case a => k_is); (case l => k_is); (case c => k_is); (case k => k_is))
    (case d38 => refine' VL.defK ?a ?l ?c ?k; (case a => k_is); (case l => k_is); (case c => k_is); (case k => k_is))
    (case d40 => refine' VL.defK ?a ?l ?c ?k; (case a => k_is); (case l => k_is); (case c => k_is); (case k => k_is))
    (case d15 => refine' VL.defK ?a ?l ?c ?k; (case a => k_is); (case l => k_is); (case c => k_is); (case k => k_is))
    (case d19 => refine' VL.defK ?a ?l ?c ?k; (case a => k_is); (case l => k_is); (case c => k_is); (case k => k_is))
    (case d10 => refine' VL.defK ?a ?l ?c ?k; (case a => k_is); (case l => k_is); (case c => k_is); (case k => k_is))
    (case d20 => refine' VL.defK ?a ?l ?c ?k; (case a => k_is); (case l => k_is); (case c => k_is); (case k => k_is))
    (case d22 => refine' VL.defK ?a ?l ?c ?k; (case a => k_is); (case l => k_is); (case c => k_is); (case k => k_is))
    (case d16 => refine' VL.defK ?a ?l ?c ?k; (case a => k_is); (case l => k_is); (case c => k_is); (case k => k_is))
    (case d17 => refine' VL.defK ?a ?l ?c ?k; (case a => k_is); (case l => k_is); (case c => k_is); (case k => k_is))
    (case d18 => refine' VL.defK ?a ?l ?c ?k; (case a => k_is); (case l => k_is); (case c => k_is); (case k => k_is))
    (case d23 => refine' VL.defK ?a ?l ?c ?k; (case a => k_is); (case l => k_is); (case c => k_is); (case k => k_is))
    (case d24 => refine' VL.defK ?a ?l ?c ?k; (case a => k_is); (case l => k_is); (case c => k_is); (case k => k_is))
    (case d11 => refine' VL.defK ?a ?l ?c ?k; (case a => k_is); (case l => k_is); (case c => k_is); (case k => k_is))
    (case d25 => refine' VL.defW ?a ?l ?c ?k ?e ?r; (case a => k_is); (case l => k_is); (case c => k_is); (case k => k_is); (case e => k_is); (case r => first | rfl | exact ⟨_, rfl⟩))
    (case d42 => refine' VL.defK ?a ?l ?c ?k; (case a => k_is); (case l => k_is); (case c => k_is); (case k => k_is))
    (case m0 => k_is)
    (case m1 => k_is)
    (case m2 => k_is)
    (case m3 => k_is)
    (case m4 => k_is)
    (case z0 => k_is)
    (case z1 => k_is)
    (case z2 => k_is)
    (case z3 => k_is)
    (case z4 => k_is)
    (case z5 => k_is)
    (case z6 => k_is)
    (case z7 => k_is)
    (case z8 => k_is)
    (case z9 => k_is)
    (case z10 => k_is)
    (case z11 => k_is)
    (case z12 => k_is)
    (case z13 => k_is)
    (case z14 => k_is)
    (case z15 => k_is)
    (case r0 => refine' VL.rai1 (VL.raiB ?a1 ?a2 ?a3 ?a4 ?a5 ?b1 ?b2 ?b3 ?b4 ?b5 ?b6 ?b7 ?b8) ?c1 ?c2 ?c3 ?c4 ?d1 ?d2 ?d3 ?d4 ?d5; (case a1 => k_is); (case a2 => k_is); (case a3 => k_is); (case a4 => k_is); (case a5 => k_is); (case b1 => k_is); (case b2 => k_is); (case b3 => k_is); (case b4 => k_is); (case b5 => k_is); (case b6 => k_is); (case b7 => k_is); (case b8 => k_is); (case c1 => k_is); (case c2 => decide +kernel); (case c3 => k_is); (case c4 => k_is); (case d1 => k_is); (case d2 => k_is); (case d3 => k_is); (case d4 => k_is); (case d5 => k_is))
    (case r1 => refine' VL.rai0 (VL.raiB ?a1 ?a2 ?a3 ?a4 ?a5 ?b1 ?b2 ?b3 ?b4 ?b5 ?b6 ?b7 ?b8) ?e1; (case a1 => k_is); (case a2 => k_is); (case a3 => k_is); (case a4 => k_is); (case a5 => k_is); (case b1 => k_is); (case b2 => k_is); (case b3 => k_is); (case b4 => k_is); (case b5 => k_is); (case b6 => k_is); (case b7 => k_is); (case b8 => k_is); (case e1 => first | rfl | decide +kernel | k_exc))
    (case r2 => refine' VL.rai0 (VL.raiB ?a1 ?a2 ?a3 ?a4 ?a5 ?b1 ?b2 ?b3 ?b4 ?b5 ?b6 ?b7 ?b8) ?e1; (case a1 => k_is); (case a2 => k_is); (case a3 => k_is); (case a4 => k_is); (case a5 => k_is); (case b1 => k_is); (case b2 => k_is); (case b3 => k_is); (case b4 => k_is); (case b5 => k_is); (case b6 => k_is); (case b7 => k_is); (case b8 => k_is); (case e1 => first | rfl | decide +kernel | k_exc))
    (case kl0 => refine' VL.clsK ?a1 ?a2 ?a3 ?a4 ?a5 ?m1 ?m2 ?m3 ?m4 ?d3 ?d4 ?d5; (case a1 => k_is); (case a2 => k_is); (case a3 => k_is); (case a4 => k_is); (case a5 => k_is); (case m1 => k_is); (case m2 => k_is); (case m3 => k_is); (case m4 => k_is); (case d3 => k_is); (case d4 => k_is); (case d5 => k_is))
    (case kn0 => refine' VL.noAtK ?a1 ?a2; (case a1 => k_is); (case a2 => k_is))
    (case kn1 => refine' VL.noAtK ?a1 ?a2; (case a1 => k_is); (case a2 => k_is))
    (case kn2 => refine' VL.noAtK ?a1 ?a2; (case a1 => k_is); (case a2 => k_is))
    (case km0 => refine' VL.methK ?a1 ?m2 ?m3 ?d3 ?d4 ?d5; (case a1 => k_is); (case m2 => k_is); (case m3 => k_is); (case d3 => k_is); (case d4 => k_is); (case d5 => k_is))
