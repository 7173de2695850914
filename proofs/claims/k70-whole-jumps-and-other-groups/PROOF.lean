import PyProof.Rows.All
import PySem.Challenge.RW_matesline_k70_whole_jumps_and_other_grou
import HandS.ForMost
import HandS.ForExc
import HandS.TupAny
import HandS.TupMul
import HandS.More
import HandS.Style
import HandS.IsInst
import HandS.Deep
import KE.DataEq
import HandS.RaiseMore
import KE.KIndexOf
import PyProof.SeqIndex
import PyProof.EqAt
import HandS.Iter
import HandS.Zip
import HandS.Rev
import KE.GoesMore
import KE.GoesEnum
import HandS.Comp
import HandS.WordsExc
import HandS.ExcOwn
import PyProof.ReprReads
import PyProof.ReprRoads
import HandS.Ends
import HandS.Dict
import KE.KRevSl
import HandS.AnyAll
import HandS.Text
import PyProof.ReprLen
import PyProof.Rows.ReprOcc
import HandS.StrMore
import HandS.Strs
import HandS.SetFor
import HandS.Steps
import HandS.ExcInit
import HandS.ExcField
import HandS.ExcIs
import HandS.Small
import KE.KIsAll
import HandS.Star
import HandS.SortInts
import HandS.TupSets
import HandS.Conv
import HandS.SortRule
import PyProof.ListStr
import HandS.Flow
import HandS.Lambda
import HandS.EndTab
import KE.KNest
import HandS.EndOwn
import HandS.HotCalls
import HandS.Defaults
import HandS.CallSlots
import HandS.Replace
import KE.DataMinMax
import HandS.NoneIn
import PyProof.EqKinds
import KE.KEqDict
import PyProof.Rows.SortShellAny
import KE.KDictZip
import KE.KItemsList
import HandS.ListItems
import KE.KDictList
import HandS.Keys
import Flt.Ops
import PyProof.FString5
import HandS.SetTxt0
import KE.SortKeyed
import KE.SortData
import HandS.GenList
import HandS.GenOver
import PyProof.LongRange
import PyProof.NeKinds
import HandS.Property
import HandS.ClsMeth
import HandS.FStr
import HandS.SlotsOwn
import KE.KCallOwn
import HandS.Finally
import HandS.Nested
import KE.KSuper
set_option Elab.async false
set_option linter.all false
set_option maxRecDepth 100000
set_option maxHeartbeats 4000000
namespace VL
open PySem PySem.Spec PyProof.Rows L2
/-! ## tuples whose very object is known (so that it has no dict of its own) -/
abbrev tob (its : List Value) : Obj := { cls := .type "tuple", data := .seq its.toArray }
/-- a held tuple -/
abbrev HO.th (o : Obj) (xs : List V) : HO := .frz o (.tup xs)
theorem th_ok {P : Program} {w : World} {H : Hp} {h : Heap} {a : Addr} {xs : List V} {its : List Value} (hz : xs.length ≤ sizeLine) (r : Vals xs its) (e : h.get? a = some (tob its)) : ObjOk P w H h a (HO.th (tob its) xs) :=
  ⟨e, hz, its, r, ⟨_, e, rfl, _, rfl⟩⟩
theorem SqT.th {K : PySem.W.Frag} {H : Hp} {a : Addr} {o : Obj} {xs : List V} (h : H a = some (HO.th o xs)) : SqT K H a xs := .inl (.inr ⟨o, h⟩)
/-- what is wanted of a new tuple -/
abbrev NewT (H : Hp) (xs : List V) (Q : VK) : Prop := ∀ (p : Addr) (o : Obj), H p = none → o.dict = none → Q (.ref p) (upd H p (HO.th o xs))
section
variable {X : Cx} {e : Expr} {es : List Expr} {te : TE} {t : TA} {pos : Pos} {pins : List (Addr × Obj)} {σ : L2.St} {H : Hp} {s : Shared} {Q : VK}
theorem new_th {xs : List V} {its : List Value} {tk : Nat} (I : Inv X pins σ H s) (hz : xs.length ≤ sizeLine) (r : Vals xs its) (q : NewT H xs Q) : EP X pins σ Q (.ref s.heap.objs.size) { s with heap := s.heap.push (tob its), toks := tk } :=
  ⟨.ref s.heap.objs.size, upd H s.heap.objs.size (HO.th (tob its) xs), I.laid (t' := tk) (fun _ _ e => Heap.get?_push_of_some _ e) (Nat.le_refl _) (th_ok hz r (Heap.get?_push_size _ rfl)), rfl, q _ _ (I.hok.fresh (Nat.le_refl _)) rfl⟩
def tTupF (t : TA) : TE := fun σ H Q => t σ H fun xs H1 => xs.length ≤ sizeLine ∧ NewT H1 xs Q
theorem pe_tupF {x1} (h : PA X es t) : PE X (.Tuple es x1 pos) (tTupF t) := by
  refine ⟨fun pins s σ H Q I hq => wpAny_Tuple_spliced (thn (h.run pos pins s σ H _ I hq) ?_)⟩
  rintro us s1 ⟨xs, H1, I1, r, z, q⟩
  exact ⟨Nat.le_trans (Nat.le_of_eq r.length.symm) z, new_th (tk := s1.toks) I1 z r q⟩
def rCatF (K : PySem.W.Frag) : R2 := fun x y H Q => ∃ a c xs ys, x = .ref a ∧ y = .ref c ∧ SqT K H a xs ∧ SqT K H c ys ∧ xs.length + ys.length ≤ sizeLine ∧
  (xs = [] → Q (.ref c) H) ∧ (xs ≠ [] → ys = [] → Q (.ref a) H) ∧ (xs ≠ [] → ys ≠ [] → NewT H (xs ++ ys) Q)
theorem op_catF : OpR X (binaryOp .Add) (rCatF X.K) := by
  intro pins s σ H x y v u Q I rx ry ⟨a, c, xs, ys, ex, ey, ha, hc, hz, q0, q1, q2⟩
  subst ex ey
  obtain rfl : v = .ref a := rx
  obtain rfl : u = .ref c := ry
  obtain ⟨i1, r1, p1, _⟩ := I.tuple ha
  obtain ⟨i2, r2, p2, _⟩ := I.tuple hc
  cases xs with
  | nil =>
    cases r1
    exact cat_tup0 p1 p2 ⟨.ref c, H, I, rfl, q0 rfl⟩
  | cons x0 xr =>
    have hx : x0 :: xr ≠ [] := by simp
    refine HT.cat_tup p1 p2 (fun z => hx (r1.nil_iff.mp z)) (fun z => ⟨.ref a, H, I, rfl, q1 hx (r2.nil_iff.mp z)⟩) (fun z => ?_) (by have h1 := r1.length; have h2 := r2.length; omega)
    exact new_th (tk := s.toks) I (by rw [List.length_append]; exact hz) (r1.append r2) (q2 hx fun w => z (r2.nil_iff.mpr w))
def rSlF (K : PySem.W.Frag) : V → Option Int → Option Int → Hp → VK → Prop := fun x lo hi H Q => ∃ a xs, x = .ref a ∧ SqT K H a xs ∧
  (HT.sIx xs.length 0 lo = 0 ∧ HT.sIx xs.length xs.length hi = xs.length → Q (.ref a) H) ∧ (¬ (HT.sIx xs.length 0 lo = 0 ∧ HT.sIx xs.length xs.length hi = xs.length) → NewT H (cutV xs lo hi) Q)
theorem sl_tupF : SlR X (rSlF X.K) := by
  intro pins s σ H x v vl vu lo hi sl Q I rx hs pl pu ⟨a, xs, ex, hx, q1, q2⟩
  subst ex
  obtain rfl : v = .ref a := rx
  obtain ⟨its, r, ht, hz⟩ := I.tuple hx
  have hn : its.toArray.size = xs.length := by rw [List.size_toArray, r.length]
  refine ⟨"tuple", _, PyProof.Rows.slot_tuple_getitem.lookup, ht.typeIs, ?_⟩
  by_cases hw : HT.sIx xs.length 0 lo = 0 ∧ HT.sIx xs.length xs.length hi = xs.length
  · exact getItem_tuple_whole ht hs pl pu (by rw [hn]; exact hw) ⟨.ref a, H, I, rfl, q1 hw⟩
  · refine HT.getItem_tuple_cut ht hs pl pu (by rw [hn]; exact hw) ?_ (by rw [hn]; exact hz)
    rw [hn]
    exact new_th (tk := s.toks) I (Nat.le_trans (cutV_length xs lo hi) hz) ((r.drop _).take _) (q2 hw)
def rTupOf (K : PySem.W.Frag) : List V → Hp → VK → Prop := fun xs H Q => ∃ p ys, xs = [.ref p] ∧ ((SqL K H p ys ∧ NewT H ys Q) ∨ (SqT K H p ys ∧ Q (.ref p) H))
theorem call_tupF : CallR X (.type "tuple") (rTupOf X.K) := by
  intro pins s σ H xs us Q I r ⟨p, ys, ex, h⟩
  subst ex
  obtain ⟨u, rfl, ru⟩ := vals1 r
  obtain rfl : u = .ref p := ru
  rcases h with ⟨hq, q⟩ | ⟨hq, q⟩
  · obtain ⟨its, r', pl, hz⟩ := I.list hq
    refine call_tuple_list pl.isList (fun h' kp => ?_) (by rw [List.size_toArray, ← r'.length]; exact hz)
    exact new_th (s := { s with heap := h' }) (tk := s.toks) (I.kept (t' := s.toks) kp) hz r' q
  · obtain ⟨its, r', pl, hz⟩ := I.tuple hq
    exact call_tuple_same pl ⟨.ref p, H, I, rfl, q⟩
def rRepF (K : PySem.W.Frag) : R2 := fun x y H Q => ∃ l k xs, x = .ref l ∧ y = .int k ∧ SqT K H l xs ∧ xs ≠ [] ∧ 2 ≤ k ∧ k ≤ 1000 ∧ xs.length ≤ 1000 ∧ NewT H (List.replicate k.toNat xs).flatten Q
theorem op_repF : OpR X (binaryOp .Mult) (rRepF X.K) := by
  intro pins s σ H x y v u Q I rx ry ⟨l, k, xs, ex, ey, hT, hne, h2, h3, hz, q⟩
  subst ex ey
  obtain rfl : v = .ref l := rx
  obtain ⟨t, rfl⟩ := ry
  obtain ⟨its, r, ⟨o, ho, hc, n, hd⟩, hs⟩ := I.tuple hT
  obtain ⟨oc, dd, dt, slt⟩ := o
  obtain rfl : oc = .type "tuple" := hc
  obtain rfl : dt = .seq its.toArray n := hd
  have hle : its.length = xs.length := r.length.symm
  have hi : its.toArray.isEmpty = false := by
    cases xs with
    | nil => exact absurd rfl hne
    | cons _ _ => cases r; rfl
  have hsz : its.toArray.size = xs.length := by rw [List.size_toArray, hle]
  have hm : ((its.toArray.size : Nat) : Int) * k ≤ 1000000 := by
    rw [hsz]
    exact Int.le_trans (Int.mul_le_mul_of_nonneg_right (show ((xs.length : Nat) : Int) ≤ 1000 by omega) (by omega)) (by omega)
  have fl : (List.replicate k.toNat xs).flatten.length ≤ sizeLine := by
    rw [PyProof.Rows.lm_len_rep_flat, sizeLine_eq]
    exact Nat.le_trans (Nat.mul_le_mul (show k.toNat ≤ 1000 by omega) hz) (by decide)
  have fl2 : (List.replicate k.toNat its).flatten.length ≤ sizeLine := by
    rw [PyProof.Rows.lm_len_rep_flat, hle, ← PyProof.Rows.lm_len_rep_flat]
    exact fl
  have c1 : (its.toArray.isEmpty || k == 1) = false := by simp only [hi, Bool.false_or]; exact beq_eq_false_iff_ne.mpr (by omega)
  have c2 : (decide (k ≤ 0) || its.toArray.isEmpty) = false := by simp only [hi, Bool.or_false]; exact decide_eq_false (by omega)
  have c4 : Builtin.Tuple.tupleTooMany (((its.toArray.size : Nat) : Int) * k) = false := by
    unfold Builtin.Tuple.tupleTooMany
    simp only [sizeLine_eq]
    exact decide_eq_false (by omega)
  have road := tuple_mulW l its.toArray n dd slt k t (by simp; omega) c1 c2 (by omega) c4 (by rw [size_rep, List.size_toArray]; exact fl2)
  refine wpAny_binaryOp_repeat_ref (U := "int") (T := "tuple") (by decide) ⟨_, ho, rfl⟩ (typeIs_int · k t) noFill_tuple_mul F.fills_int_mul F.slot_int_rmul repeat_tuple F.slot_int_index.lookup ?_
  refine call_meets F.slot_int_rmul (typeIs_int s k t) F.entry_int_rmul (F.args_int_rmul_2 _ _) (int_rmul_tuple k t l its.toArray n dd slt) ⟨ho, rfl, ⟨_, ho, rfl⟩, ?_⟩
  refine call_meets F.slot_tuple_mul ⟨_, ho, rfl⟩ F.entry_tuple_mul (F.args_tuple_mul_2 _ _) road ⟨ho, ?_⟩
  rw [size_rep]
  exact new_th (tk := s.toks) I fl (r.rep k.toNat) q
end
end VL
set_option Elab.async false
set_option linter.all false
set_option maxRecDepth 100000
set_option maxHeartbeats 4000000
namespace VL
open PySem PySem.Spec PyProof.Rows L2
/-- things that no rule here writes -/
def still : HO → Prop
  | .ext _ => True
  | .frz _ (.lst _) => True
  | _ => False
/-- any other thing, by what is true of it at its address -/
structure Abs where
  R : (Addr → Prop) → Hp → Addr → Prop
  at_ : ∀ {Z H a}, R Z H a → ∃ o, H a = some o
  noext : ∀ {Z H a}, R Z H a → ∀ o : HO, still o → H a ≠ some o
  mono : ∀ {Z Z' : Addr → Prop} {H H' : Hp} {a : Addr}, (∀ a, Z' a → Z a ∨ H a = none) → (∀ a o, H a = some o → ¬ Z a → H' a = some o) → (∀ o, H a = some o → H' a = some o) → R Z H a → R Z' H' a
/-- what a field of an object that changes may be worth: plain data, a tuple of objects of a class, another object -/
inductive FV where
  | py (p : PyData)
  | tps (n : Str) (L : List (List (Str × PyData)))
  | adr (a : Addr)
/-- any claim about a value that later steps keep -/
structure Clm where
  R : (Str → Addr) → (Addr → Prop) → Hp → V → Prop
  mono : ∀ {cls : Str → Addr} {Z Z' : Addr → Prop} {H H' : Hp} {v : V}, (∀ a, Z' a → Z a ∨ H a = none) → (∀ a o, H a = some o → ¬ Z a → H' a = some o) → R cls Z H v → R cls Z' H' v
/-- what a value is worth: plain data, an own object of plain data that stands still, a value as it is -/
inductive D where
  | py (p : PyData)
  | obj (a : Addr) (n : Str) (fs : List (Str × PyData))
  | raw (v : V)
  | err (a : Addr) (d : Option Addr) (n : Str) (fs : List (Str × PyData))
  | abs (A : Abs)
  | tps (n : Str) (L : List (List (Str × PyData)))
  | rob (a : Addr) (n : Str) (fs : List (Str × FV))
  | cls (n : Str)
  | clm (C : Clm)
@[simp] def kD : Key → PyData
  | .inl i => .int i
  | .inr x => .str x
mutual
/-- v is worth d in H; nothing that it reaches lies in Z -/
inductive Rq (Z : Addr → Prop) (H : Hp) : V → PyData → Prop
  | non : Rq Z H .non .none
  | bl (k : Bool) : Rq Z H (.bl k) (.bool k)
  | int (i : Int) : Rq Z H (.int i) (.int i)
  | str (x : Str) : Rq Z H (.str x) (.str x)
  | lst {a : Addr} {xs : List V} {ds : List PyData} : H a = some (.lst xs) → ¬ Z a → Rqs Z H xs ds → Rq Z H (.ref a) (.list ds)
  | tup {a : Addr} {o : Obj} {xs : List V} {ds : List PyData} : H a = some (HO.th o xs) → o.dict = none → ¬ Z a → Rqs Z H xs ds → Rq Z H (.ref a) (.tuple ds)
  | dct {a : Addr} {kvs : List (Key × V)} {ds : List (PyData × PyData)} : H a = some (.dK kvs) → ¬ Z a → Rqk Z H kvs ds → Rq Z H (.ref a) (.dict ds)
inductive Rqs (Z : Addr → Prop) (H : Hp) : List V → List PyData → Prop
  | nil : Rqs Z H [] []
  | cons {v : V} {d : PyData} {vs : List V} {ds : List PyData} : Rq Z H v d → Rqs Z H vs ds → Rqs Z H (v :: vs) (d :: ds)
inductive Rqk (Z : Addr → Prop) (H : Hp) : List (Key × V) → List (PyData × PyData) → Prop
  | nil : Rqk Z H [] []
  | cons {k : Key} {v : V} {d : PyData} {vs : List (Key × V)} {ds : List (PyData × PyData)} : Rq Z H v d → Rqk Z H vs ds → Rqk Z H ((k, v) :: vs) ((kD k, d) :: ds)
end
section
variable {Z Z' : Addr → Prop} {H H' : Hp}
mutual
theorem Rq.mono (hz : ∀ a, Z' a → Z a ∨ H a = none) (hs : ∀ a o, H a = some o → ¬ Z a → H' a = some o) : ∀ {v : V} {d : PyData}, Rq Z H v d → Rq Z' H' v d
  | _, _, .non => .non
  | _, _, .bl k => .bl k
  | _, _, .int i => .int i
  | _, _, .str x => .str x
  | _, _, .lst e n r => .lst (hs _ _ e n) (fun z => (hz _ z).elim n fun q => by rw [e] at q; cases q) (Rqs.mono hz hs r)
  | _, _, .tup e d n r => .tup (hs _ _ e n) d (fun z => (hz _ z).elim n fun q => by rw [e] at q; cases q) (Rqs.mono hz hs r)
  | _, _, .dct e n r => .dct (hs _ _ e n) (fun z => (hz _ z).elim n fun q => by rw [e] at q; cases q) (Rqk.mono hz hs r)
theorem Rqs.mono (hz : ∀ a, Z' a → Z a ∨ H a = none) (hs : ∀ a o, H a = some o → ¬ Z a → H' a = some o) : ∀ {v : List V} {d : List PyData}, Rqs Z H v d → Rqs Z' H' v d
  | _, _, .nil => .nil
  | _, _, .cons r t => .cons (Rq.mono hz hs r) (Rqs.mono hz hs t)
theorem Rqk.mono (hz : ∀ a, Z' a → Z a ∨ H a = none) (hs : ∀ a o, H a = some o → ¬ Z a → H' a = some o) : ∀ {v : List (Key × V)} {d : List (PyData × PyData)}, Rqk Z H v d → Rqk Z' H' v d
  | _, _, .nil => .nil
  | _, _, .cons r t => .cons (Rq.mono hz hs r) (Rqk.mono hz hs t)
end
theorem Rqs.length : ∀ {v : List V} {d : List PyData}, Rqs Z H v d → v.length = d.length
  | _, _, .nil => rfl
  | _, _, .cons _ t => congrArg (· + 1) (Rqs.length t)
theorem Rqk.length : ∀ {v : List (Key × V)} {d : List (PyData × PyData)}, Rqk Z H v d → v.length = d.length
  | _, _, .nil => rfl
  | _, _, .cons _ t => congrArg (· + 1) (Rqk.length t)
theorem Rqs.append : ∀ {v w : List V} {d e : List PyData}, Rqs Z H v d → Rqs Z H w e → Rqs Z H (v ++ w) (d ++ e)
  | _, _, _, _, .nil, s => s
  | _, _, _, _, .cons r t, s => .cons r (Rqs.append t s)
theorem Rqs.get : ∀ {v : List V} {d : List PyData} {i : Nat} {x : PyData}, Rqs Z H v d → d[i]? = some x → ∃ u, v[i]? = some u ∧ Rq Z H u x
  | _, _, _, _, .nil, e => by simp at e
  | _, _, 0, _, .cons r _, e => by simp at e; subst e; exact ⟨_, rfl, r⟩
  | _, _, i + 1, x, .cons _ t, e => by
    obtain ⟨u, h1, h2⟩ := Rqs.get (i := i) (x := x) t (by simpa using e)
    exact ⟨u, by simpa using h1, h2⟩
theorem Rqs.take : ∀ {v : List V} {d : List PyData} (n : Nat), Rqs Z H v d → Rqs Z H (v.take n) (d.take n)
  | _, _, 0, _ => .nil
  | _, _, _ + 1, .nil => .nil
  | _, _, n + 1, .cons r t => .cons r (Rqs.take n t)
theorem Rqs.drop : ∀ {v : List V} {d : List PyData} (n : Nat), Rqs Z H v d → Rqs Z H (v.drop n) (d.drop n)
  | _, _, 0, r => r
  | _, _, _ + 1, .nil => .nil
  | _, _, n + 1, .cons _ t => Rqs.drop n t
theorem Rqs.rep {v : List V} {d : List PyData} (r : Rqs Z H v d) : ∀ n : Nat, Rqs Z H (List.replicate n v).flatten (List.replicate n d).flatten
  | 0 => .nil
  | n + 1 => by rw [List.replicate_succ, List.replicate_succ, List.flatten_cons, List.flatten_cons]; exact r.append (Rqs.rep r n)
/-- ints are ints -/
theorem Rqs.ints : ∀ {v : List V} {ns : List Int}, Rqs Z H v (ns.map PyData.int) → v = ns.map V.int
  | _, [], .nil => rfl
  | _, n :: ns, .cons r t => by
    cases r
    rw [List.map_cons, Rqs.ints t]
theorem Rqs.of_ints : ∀ (ns : List Int), Rqs Z H (ns.map V.int) (ns.map PyData.int)
  | [] => .nil
  | n :: ns => .cons (.int n) (Rqs.of_ints ns)
end
/-- what surrounds the code: the classes' addresses, what others may change (B) while G stands -/
structure Bg where
  cls : Str → Addr
  B : Addr → Prop
  G : Hp → Prop
  loc : ∀ H H' : Hp, (∀ a, B a → H' a = H a) → (∀ a o, still o → H a = some o → H' a = some o) → G H → G H'
  dom : ∀ (H : Hp) (a : Addr), G H → B a → H a ≠ none
/-- an error: its class's name, its fields -/
structure Er where
  n : Str
  fs : List (Str × PyData)
/-- fields -/
inductive Rqf (Z : Addr → Prop) (H : Hp) : List (Str × V) → List (Str × PyData) → Prop
  | nil : Rqf Z H [] []
  | cons {k : Str} {v : V} {d : PyData} {vs : List (Str × V)} {ds : List (Str × PyData)} : Rq Z H v d → Rqf Z H vs ds → Rqf Z H ((k, v) :: vs) ((k, d) :: ds)
section
variable {Z Z' : Addr → Prop} {H H' : Hp}
theorem Rqf.mono (hz : ∀ a, Z' a → Z a ∨ H a = none) (hs : ∀ a o, H a = some o → ¬ Z a → H' a = some o) : ∀ {v : List (Str × V)} {d : List (Str × PyData)}, Rqf Z H v d → Rqf Z' H' v d
  | _, _, .nil => .nil
  | _, _, .cons r t => .cons (r.mono hz hs) (Rqf.mono hz hs t)
theorem Rqf.look : ∀ {v : List (Str × V)} {d : List (Str × PyData)} {f : Str} {x : PyData}, Rqf Z H v d → d.lookup f = some x → ∃ u, v.lookup f = some u ∧ Rq Z H u x
  | _, _, _, _, .nil, e => by simp at e
  | _, _, f, x, .cons (k := k) r t, e => by
    rw [List.lookup_cons] at e
    rw [List.lookup_cons]
    cases h : f == k with
    | true => rw [h] at e; cases e; exact ⟨_, rfl, r⟩
    | false => rw [h] at e; exact Rqf.look t e
end
/-- objects of the class at C, by their fields -/
inductive Rqo (C : Addr) (Z : Addr → Prop) (H : Hp) : List V → List (List (Str × PyData)) → Prop
  | nil : Rqo C Z H [] []
  | cons {a dx : Addr} {xs : List (Str × V)} {fs : List (Str × PyData)} {vs : List V} {L : List (List (Str × PyData))} : H a = some (.ins C dx xs) → ¬ Z a → Rqf Z H xs fs → Rqo C Z H vs L → Rqo C Z H (.ref a :: vs) (fs :: L)
/-- a tuple of such objects -/
def RpT (cls : Str → Addr) (Z : Addr → Prop) (H : Hp) (v : V) (n : Str) (L : List (List (Str × PyData))) : Prop := ∃ c o xs, v = .ref c ∧ H c = some (HO.th o xs) ∧ o.dict = none ∧ ¬ Z c ∧ Rqo (cls n) Z H xs L
/-- a field's value is worth it -/
def RFv (cls : Str → Addr) (Z : Addr → Prop) (H : Hp) (v : V) : FV → Prop
  | .py p => Rq Z H v p
  | .tps n L => RpT cls Z H v n L
  | .adr a => v = .ref a
inductive RFs (cls : Str → Addr) (Z : Addr → Prop) (H : Hp) : List (Str × V) → List (Str × FV) → Prop
  | nil : RFs cls Z H [] []
  | cons {k : Str} {v : V} {d : FV} {vs : List (Str × V)} {ds : List (Str × FV)} : RFv cls Z H v d → RFs cls Z H vs ds → RFs cls Z H ((k, v) :: vs) ((k, d) :: ds)
section
variable {cls : Str → Addr} {C : Addr} {Z Z' : Addr → Prop} {H H' : Hp}
theorem Rqo.mono (hz : ∀ a, Z' a → Z a ∨ H a = none) (hs : ∀ a o, H a = some o → ¬ Z a → H' a = some o) : ∀ {v : List V} {L : List (List (Str × PyData))}, Rqo C Z H v L → Rqo C Z' H' v L
  | _, _, .nil => .nil
  | _, _, .cons e n r t => .cons (hs _ _ e n) (fun z => (hz _ z).elim n fun q => by rw [e] at q; cases q) (r.mono hz hs) (Rqo.mono hz hs t)
theorem RpT.mono (hz : ∀ a, Z' a → Z a ∨ H a = none) (hs : ∀ a o, H a = some o → ¬ Z a → H' a = some o) {v : V} {n : Str} {L : List (List (Str × PyData))} (r : RpT cls Z H v n L) : RpT cls Z' H' v n L := by
  obtain ⟨c, o, xs, ev, e, d, nz, q⟩ := r
  exact ⟨c, o, xs, ev, hs _ _ e nz, d, fun z => (hz _ z).elim nz (fun q => by rw [e] at q; cases q), q.mono hz hs⟩
theorem RFv.mono (hz : ∀ a, Z' a → Z a ∨ H a = none) (hs : ∀ a o, H a = some o → ¬ Z a → H' a = some o) {v : V} {d : FV} (r : RFv cls Z H v d) : RFv cls Z' H' v d := by
  cases d with
  | py p => exact Rq.mono hz hs r
  | tps n L => exact RpT.mono hz hs r
  | adr a => exact r
theorem RFs.mono (hz : ∀ a, Z' a → Z a ∨ H a = none) (hs : ∀ a o, H a = some o → ¬ Z a → H' a = some o) : ∀ {v : List (Str × V)} {d : List (Str × FV)}, RFs cls Z H v d → RFs cls Z' H' v d
  | _, _, .nil => .nil
  | _, _, .cons r t => .cons (r.mono hz hs) (RFs.mono hz hs t)
theorem RFs.look : ∀ {v : List (Str × V)} {d : List (Str × FV)} {f : Str} {x : FV}, RFs cls Z H v d → d.lookup f = some x → ∃ u, v.lookup f = some u ∧ RFv cls Z H u x
  | _, _, _, _, .nil, e => by simp at e
  | _, _, f, x, .cons (k := k) r t, e => by
    rw [List.lookup_cons] at e
    rw [List.lookup_cons]
    cases h : f == k with
    | true => rw [h] at e; cases e; exact ⟨_, rfl, r⟩
    | false => rw [h] at e; exact RFs.look t e
theorem RFs.none {f : Str} : ∀ {xs : List (Str × V)} {fs : List (Str × FV)}, RFs cls Z H xs fs → fs.lookup f = none → xs.lookup f = none
  | _, _, .nil, _ => rfl
  | _, _, .cons (k := k) r t, e => by
    rw [List.lookup_cons] at e ⊢
    cases h : f == k with
    | true => rw [h] at e; cases e
    | false => rw [h] at e; exact RFs.none t e
theorem RFs.len : ∀ {xs : List (Str × V)} {fs : List (Str × FV)}, RFs cls Z H xs fs → xs.length = fs.length
  | _, _, .nil => rfl
  | _, _, .cons _ t => congrArg (· + 1) (RFs.len t)
end
/-- v is worth d -/
def Rp (b : Bg) (Z : Addr → Prop) (H : Hp) (v : V) : D → Prop
  | .py p => Rq Z H v p
  | .obj a n fs => ∃ dx xs, v = .ref a ∧ H a = some (.ins (b.cls n) dx xs) ∧ ¬ Z a ∧ Rqf Z H xs fs
  | .abs A => ∃ a, v = .ref a ∧ ¬ Z a ∧ A.R Z H a
  | .tps n L => RpT b.cls Z H v n L
  | .rob a n fs => ∃ dx xs, v = .ref a ∧ H a = some (.ins (b.cls n) dx xs) ∧ ¬ Z a ∧ RFs b.cls Z H xs fs
  | .cls n => v = .ref (b.cls n)
  | .clm C => C.R b.cls Z H v
  | .raw u => v = u
  | .err a d _ fs => v = .ref a ∧ ((d = none ∧ fs = []) ∨ ∃ dd xs, d = some dd ∧ H dd = some (.xd xs) ∧ ¬ Z dd ∧ Rqf Z H xs fs)
inductive Rps (b : Bg) (Z : Addr → Prop) (H : Hp) : List V → List D → Prop
  | nil : Rps b Z H [] []
  | cons {v : V} {d : D} {vs : List V} {ds : List D} : Rp b Z H v d → Rps b Z H vs ds → Rps b Z H (v :: vs) (d :: ds)
section
variable {b : Bg} {Z Z' : Addr → Prop} {H H' : Hp}
theorem Rp.mono (hz : ∀ a, Z' a → Z a ∨ H a = none) (hs : ∀ a o, H a = some o → ¬ Z a → H' a = some o) {v : V} {d : D} (r : Rp b Z H v d) : Rp b Z' H' v d := by
  cases d with
  | py p => exact Rq.mono hz hs r
  | abs A =>
    obtain ⟨a, e, nz, q⟩ := r
    obtain ⟨o, h⟩ := A.at_ q
    exact ⟨a, e, fun z => (hz _ z).elim nz (fun q => by rw [h] at q; cases q), A.mono hz hs (fun o h => hs _ _ h nz) q⟩
  | obj a n fs =>
    obtain ⟨dx, xs, e, h, nz, q⟩ := r
    exact ⟨dx, xs, e, hs _ _ h nz, fun z => (hz _ z).elim nz (fun q => by rw [h] at q; cases q), q.mono hz hs⟩
  | tps n L => exact RpT.mono hz hs r
  | rob a n fs =>
    obtain ⟨dx, xs, e, h, nz, q⟩ := r
    exact ⟨dx, xs, e, hs _ _ h nz, fun z => (hz _ z).elim nz (fun q => by rw [h] at q; cases q), q.mono hz hs⟩
  | cls n => exact r
  | clm C => exact C.mono hz hs r
  | raw u => exact r
  | err a d n fs =>
    obtain ⟨e, r⟩ := r
    refine ⟨e, r.imp id ?_⟩
    rintro ⟨dd, xs, e1, h, nz, q⟩
    exact ⟨dd, xs, e1, hs _ _ h nz, fun z => (hz _ z).elim nz (fun q => by rw [h] at q; cases q), q.mono hz hs⟩
theorem Rps.mono (hz : ∀ a, Z' a → Z a ∨ H a = none) (hs : ∀ a o, H a = some o → ¬ Z a → H' a = some o) : ∀ {v : List V} {d : List D}, Rps b Z H v d → Rps b Z' H' v d
  | _, _, .nil => .nil
  | _, _, .cons r t => .cons (r.mono hz hs) (Rps.mono hz hs t)
theorem Rps.length : ∀ {v : List V} {d : List D}, Rps b Z H v d → v.length = d.length
  | _, _, .nil => rfl
  | _, _, .cons _ t => congrArg (· + 1) (Rps.length t)
theorem Rps.pys : ∀ {v : List V} {d : List PyData}, Rps b Z H v (d.map D.py) → Rqs Z H v d
  | _, [], .nil => .nil
  | _, x :: d, .cons r t => .cons r (Rps.pys t)
theorem Rqs.to : ∀ {v : List V} {d : List PyData}, Rqs Z H v d → Rps b Z H v (d.map D.py)
  | _, _, .nil => .nil
  | _, _, .cons r t => .cons r (Rqs.to t)
end
/-- an owned object: it lies in Z itself, its items do not -/
def Ow (b : Bg) (Z : Addr → Prop) (H : Hp) (a : Addr) : D → Prop
  | .py (.list ds) => ∃ xs, H a = some (.lst xs) ∧ Rqs Z H xs ds
  | .py (.dict ds) => ∃ kvs, H a = some (.dK kvs) ∧ Rqk Z H kvs ds
  | .obj c n fs => a = c ∧ ∃ dx xs, H a = some (.ins (b.cls n) dx xs) ∧ Rqf Z H xs fs
  | .rob c n fs => a = c ∧ ∃ dx xs, H a = some (.ins (b.cls n) dx xs) ∧ RFs b.cls Z H xs fs
  | .abs A => A.R Z H a
  | _ => False
section
variable {b : Bg} {Z Z' : Addr → Prop} {H H' : Hp} {a : Addr} {d : D}
theorem Ow.noext (h : Ow b Z H a d) (o : HO) (ho : still o) : H a ≠ some o := fun z => by
  cases d with
  | py p =>
    cases p with
    | list ds => obtain ⟨xs, e, _⟩ := h; rw [e] at z; cases z; exact ho
    | dict ds => obtain ⟨xs, e, _⟩ := h; rw [e] at z; cases z; exact ho
    | _ => exact False.elim h
  | obj c n fs => obtain ⟨_, _, _, e, _⟩ := h; rw [e] at z; cases z; exact ho
  | rob c n fs => obtain ⟨_, _, _, e, _⟩ := h; rw [e] at z; cases z; exact ho
  | abs A => exact A.noext h o ho z
  | _ => exact False.elim h
theorem Ow.at (h : Ow b Z H a d) : ∃ o, H a = some o := by
  cases d with
  | py p =>
    cases p with
    | list ds => obtain ⟨xs, e, _⟩ := h; exact ⟨_, e⟩
    | dict ds => obtain ⟨xs, e, _⟩ := h; exact ⟨_, e⟩
    | _ => exact False.elim h
  | obj c n fs => obtain ⟨_, dx, xs, e, _⟩ := h; exact ⟨_, e⟩
  | rob c n fs => obtain ⟨_, dx, xs, e, _⟩ := h; exact ⟨_, e⟩
  | tps n L => exact False.elim h
  | cls n => exact False.elim h
  | clm C => exact False.elim h
  | abs A => exact A.at_ h
  | raw u => exact False.elim h
  | err _ _ _ _ => exact False.elim h
theorem Ow.mono (hz : ∀ a, Z' a → Z a ∨ H a = none) (hs : ∀ a o, H a = some o → ¬ Z a → H' a = some o) (ha : ∀ o, H a = some o → H' a = some o) (h : Ow b Z H a d) : Ow b Z' H' a d := by
  cases d with
  | py p =>
    cases p with
    | list ds => obtain ⟨xs, e, r⟩ := h; exact ⟨xs, ha _ e, r.mono hz hs⟩
    | dict ds => obtain ⟨xs, e, r⟩ := h; exact ⟨xs, ha _ e, r.mono hz hs⟩
    | _ => exact False.elim h
  | obj c n fs => obtain ⟨ec, dx, xs, e, r⟩ := h; exact ⟨ec, dx, xs, ha _ e, r.mono hz hs⟩
  | rob c n fs => obtain ⟨ec, dx, xs, e, r⟩ := h; exact ⟨ec, dx, xs, ha _ e, r.mono hz hs⟩
  | tps n L => exact False.elim h
  | cls n => exact False.elim h
  | clm C => exact False.elim h
  | abs A => exact A.mono hz hs ha h
  | raw u => exact False.elim h
  | err _ _ _ _ => exact False.elim h
/-- given away -/
theorem Ow.rp (hz : ∀ a, Z' a → Z a) (na : ¬ Z' a) (h : Ow b Z H a d) : Rp b Z' H (.ref a) d := by
  have hm : ∀ a, Z' a → Z a ∨ H a = none := fun a z => .inl (hz a z)
  cases d with
  | py p =>
    cases p with
    | list ds => obtain ⟨xs, e, r⟩ := h; exact Rq.lst e na (r.mono hm fun _ _ e _ => e)
    | dict ds => obtain ⟨xs, e, r⟩ := h; exact Rq.dct e na (r.mono hm fun _ _ e _ => e)
    | _ => exact False.elim h
  | obj c n fs => obtain ⟨ec, dx, xs, e, r⟩ := h; subst ec; exact ⟨dx, xs, rfl, e, na, r.mono hm fun _ _ e _ => e⟩
  | rob c n fs => obtain ⟨ec, dx, xs, e, r⟩ := h; subst ec; exact ⟨dx, xs, rfl, e, na, r.mono hm fun _ _ e _ => e⟩
  | tps n L => exact False.elim h
  | cls n => exact False.elim h
  | clm C => exact False.elim h
  | abs A => exact ⟨a, rfl, na, A.mono hm (fun _ _ e _ => e) (fun _ e => e) h⟩
  | raw u => exact False.elim h
  | err _ _ _ _ => exact False.elim h
end
end VL
set_option Elab.async false
set_option linter.all false
set_option maxRecDepth 100000
set_option maxHeartbeats 4000000
namespace VL
open PySem PySem.Spec PyProof.Rows L2
/-- a name's slot: nothing known, a shared value, an object that nobody else holds -/
inductive Slot where
  | un | shr (d : D) | own (d : D)
abbrev VEnv := List Slot
/-- all that stood and may not be changed by others stands -/
def Ex (b : Bg) (H H' : Hp) : Prop := ∀ a o, H a = some o → ¬ b.B a → H' a = some o
section
variable {b : Bg} {H H1 H2 : Hp}
theorem Ex.refl : Ex b H H := fun _ _ e _ => e
theorem Ex.trans (x : Ex b H H1) (y : Ex b H1 H2) : Ex b H H2 := fun a o e n => y a o (x a o e n) n
theorem Ex.new {a : Addr} {o : HO} (h : H a = none) : Ex b H (upd H a o) := fun c u e _ => by
  rw [upd_ne (ne_of_none e h)]
  exact e
theorem Bg.new {a : Addr} {o : HO} (g : b.G H) (h : H a = none) : b.G (upd H a o) :=
  b.loc H _ (fun c hc => upd_ne fun e => b.dom H c g hc (by rw [e]; exact h)) (fun c o _ e => by rw [upd_ne (ne_of_none e h)]; exact e) g
end
/-- the names' values and what they own. Zo: what the callers own, and B; Z: all that is owned now -/
structure VOk (b : Bg) (Zo Z : Addr → Prop) (σ : L2.St) (H : Hp) (ρ : VEnv) : Prop where
  g : b.G H
  zb : ∀ a, b.B a → Zo a
  zo : ∀ a, Zo a → Z a
  dom : ∀ a, Z a → H a ≠ none
  zi : ∀ a, Z a → Zo a ∨ ∃ (i : Nat) (d : D), ρ[i]? = some (.own d) ∧ σ[i]? = some (some (.ref a))
  own : ∀ (i : Nat) (d : D), ρ[i]? = some (.own d) → ∃ a, σ[i]? = some (some (.ref a)) ∧ Z a ∧ ¬ Zo a ∧ Ow b Z H a d
  inj : ∀ (i j : Nat) (d e : D) (a : Addr), ρ[i]? = some (.own d) → ρ[j]? = some (.own e) → σ[i]? = some (some (.ref a)) → σ[j]? = some (some (.ref a)) → i = j
  shr : ∀ (i : Nat) (d : D), ρ[i]? = some (.shr d) → ∃ v, σ[i]? = some (some v) ∧ Rp b Z H v d
  len : ρ.length = σ.length
section
variable {b : Bg} {Zo Z : Addr → Prop} {σ : L2.St} {H H' : Hp} {ρ : VEnv}
theorem VOk.nb (v : VOk b Zo Z σ H ρ) {a : Addr} (h : ¬ Z a) : ¬ b.B a := fun z => h (v.zo _ (v.zb _ z))
theorem VOk.fresh (v : VOk b Zo Z σ H ρ) {a : Addr} (h : H a = none) : ¬ Z a := fun z => v.dom a z h
theorem VOk.keep (v : VOk b Zo Z σ H ρ) (x : Ex b H H') : ∀ a o, H a = some o → ¬ Z a → H' a = some o := fun a o e n => x a o e (v.nb n)
theorem VOk.rp (v : VOk b Zo Z σ H ρ) (x : Ex b H H') {u : V} {d : D} (r : Rp b Z H u d) : Rp b Z H' u d := r.mono (fun a z => .inl z) (v.keep x)
theorem VOk.rq (v : VOk b Zo Z σ H ρ) (x : Ex b H H') {u : V} {d : PyData} (r : Rq Z H u d) : Rq Z H' u d := r.mono (fun a z => .inl z) (v.keep x)
theorem VOk.rqs (v : VOk b Zo Z σ H ρ) (x : Ex b H H') {u : List V} {d : List PyData} (r : Rqs Z H u d) : Rqs Z H' u d := r.mono (fun a z => .inl z) (v.keep x)
/-- behind an expression -/
theorem VOk.ex (v : VOk b Zo Z σ H ρ) (x : Ex b H H') (g : b.G H') : VOk b Zo Z σ H' ρ where
  g := g
  zb := v.zb
  zo := v.zo
  dom := fun a z => by
    by_cases hb : b.B a
    · exact b.dom H' a g hb
    · cases e : H a with
      | none => exact absurd e (v.dom a z)
      | some o => rw [x a o e hb]; simp
  zi := v.zi
  own := fun i d e => by
    obtain ⟨a, h1, h2, h3, h4⟩ := v.own i d e
    exact ⟨a, h1, h2, h3, h4.mono (fun _ z => .inl z) (v.keep x) fun o q => x a o q fun z => h3 (v.zb a z)⟩
  inj := v.inj
  shr := fun i d e => by
    obtain ⟨u, h1, h2⟩ := v.shr i d e
    exact ⟨u, h1, v.rp x h2⟩
  len := v.len
end
/-! ### readings -/
abbrev VT := VEnv → (D → Prop) → (Er → Prop) → Prop
abbrev VB := VEnv → (Bool → Prop) → (Er → Prop) → Prop
abbrev VA := VEnv → (List D → Prop) → (Er → Prop) → Prop
/-- an error as it lies: its class, its own dict -/
def ErRp (b : Bg) (Z : Addr → Prop) (H : Hp) (c : Value) (d : Option Addr) (er : Er) : Prop :=
  c = .ref (b.cls er.n) ∧ ((d = none ∧ er.fs = []) ∨ ∃ a xs, d = some a ∧ H a = some (.xd xs) ∧ ¬ Z a ∧ Rqf Z H xs er.fs)
/-- a borrowed value: it may be an owned object itself -/
def Rb (b : Bg) (Z : Addr → Prop) (H : Hp) (v : V) (d : D) : Prop := Rp b Z H v d ∨ ∃ a, v = .ref a ∧ ¬ b.B a ∧ Z a ∧ Ow b Z H a d
/-- a new object that nobody holds -/
def Rn (b : Bg) (Z : Addr → Prop) (H0 H : Hp) (v : V) (d : D) : Prop := ∃ a, v = .ref a ∧ H0 a = none ∧ Ow b (fun c => Z c ∨ c = a) H a d
/-- how a reading over values is one over the heap -/
def LE (b : Bg) (W : WX) (R : (Addr → Prop) → Hp → Hp → V → D → Prop) (t : VT) : TE := fun σ H Q => ∃ Zo Z ρ Qd Ed, VOk b Zo Z σ H ρ ∧ t ρ Qd Ed ∧
  (∀ v H' d, Ex b H H' → b.G H' → R Z H H' v d → Qd d → Q v H') ∧ ∀ c x H' er, Ex b H H' → b.G H' → ErRp b Z H' c x er → Ed er → W c x σ H'
def LB (b : Bg) (W : WX) (t : VB) : TT := fun σ H Q => ∃ Zo Z ρ Qd Ed, VOk b Zo Z σ H ρ ∧ t ρ Qd Ed ∧
  (∀ k H', Ex b H H' → b.G H' → Qd k → Q k H') ∧ ∀ c x H' er, Ex b H H' → b.G H' → ErRp b Z H' c x er → Ed er → W c x σ H'
def LA (b : Bg) (W : WX) (t : VA) : TA := fun σ H Q => ∃ Zo Z ρ Qd Ed, VOk b Zo Z σ H ρ ∧ t ρ Qd Ed ∧
  (∀ v H' d, Ex b H H' → b.G H' → Rps b Z H' v d → Qd d → Q v H') ∧ ∀ c x H' er, Ex b H H' → b.G H' → ErRp b Z H' c x er → Ed er → W c x σ H'
/-- an expression: its value; borrowed; new -/
def VE (X : Cx) (b : Bg) (W : WX) (e : Expr) (t : VT) : Prop := PE X e (LE b W (fun Z _ H v d => Rp b Z H v d) t)
def VX (X : Cx) (b : Bg) (W : WX) (e : Expr) (t : VT) : Prop := PE X e (LE b W (fun Z _ H v d => Rb b Z H v d) t)
def VN (X : Cx) (b : Bg) (W : WX) (e : Expr) (t : VT) : Prop := PE X e (LE b W (fun Z H0 H v d => Rn b Z H0 H v d) t)
def VTe (X : Cx) (b : Bg) (W : WX) (e : Expr) (t : VB) : Prop := PT X e (LB b W t)
def VAs (X : Cx) (b : Bg) (W : WX) (es : List Expr) (t : VA) : Prop := PA X es (LA b W t)
theorem pe_mono {X : Cx} {e : Expr} {t t' : TE} (h : PE X e t) (m : ∀ σ H Q, t' σ H Q → t σ H Q) : PE X e t' :=
  ⟨fun pins s σ H Q I q => h.run pins s σ H Q I (m σ H Q q)⟩
theorem pt_mono {X : Cx} {e : Expr} {t t' : TT} (h : PT X e t) (m : ∀ σ H Q, t' σ H Q → t σ H Q) : PT X e t' :=
  ⟨fun pins s σ H Q I q => h.run pins s σ H Q I (m σ H Q q)⟩
theorem pa_mono {X : Cx} {e : List Expr} {t t' : TA} (h : PA X e t) (m : ∀ σ H Q, t' σ H Q → t σ H Q) : PA X e t' :=
  ⟨fun pos pins s σ H Q I q => h.run pos pins s σ H Q I (m σ H Q q)⟩
theorem ps_mono {X : Cx} {e : Stmt} {t t' : TS} (h : PS X e t) (m : ∀ D σ H, t' D σ H → t D σ H) : PS X e t' :=
  ⟨fun pins s σ H D I q => h.run pins s σ H D I (m D σ H q)⟩
theorem pss_mono {X : Cx} {e : List Stmt} {t t' : TS} (h : PSs X e t) (m : ∀ D σ H, t' D σ H → t D σ H) : PSs X e t' :=
  ⟨fun pins s σ H D I q => h.run pins s σ H D I (m D σ H q)⟩
section
variable {X : Cx} {b : Bg} {W : WX} {e e1 e2 : Expr} {es : List Expr} {t t1 t2 : VT} {pos : Pos}
theorem VE.toX (h : VE X b W e t) : VX X b W e t := pe_mono h fun σ H Q ⟨Zo, Z, ρ, Qd, Ed, v, q, l, m⟩ => ⟨Zo, Z, ρ, Qd, Ed, v, q, fun u H' d x g r => l u H' d x g (.inl r), m⟩
theorem VN.toE (h : VN X b W e t) : VE X b W e t := pe_mono h fun σ H Q ⟨Zo, Z, ρ, Qd, Ed, v, q, l, m⟩ => ⟨Zo, Z, ρ, Qd, Ed, v, q, fun u H' d x g ⟨a, e, n, o⟩ => by
  subst e
  exact l _ H' d x g (o.rp (fun _ z => .inl z) (v.fresh n)), m⟩
theorem VN.toX (h : VN X b W e t) : VX X b W e t := VE.toX (VN.toE h)
/-! ### names, constants -/
@[simp] def vVar (i : Nat) : VT := fun ρ Q _ => ∃ d, ρ[i]? = some (.shr d) ∧ Q d
@[simp] def vBor (i : Nat) : VT := fun ρ Q _ => ∃ d, (ρ[i]? = some (.shr d) ∨ ρ[i]? = some (.own d)) ∧ Q d
@[simp] def vC (d : D) : VT := fun _ Q _ => Q d
theorem ve_var {i : Nat} (h : PE X e (tVar i)) : VE X b W e (vVar i) := pe_mono h fun σ H Q ⟨Zo, Z, ρ, Qd, Ed, v, ⟨d, e, q⟩, l, _⟩ => by
  obtain ⟨u, h1, h2⟩ := v.shr i d e
  exact ⟨u, h1, l u H d Ex.refl v.g h2 q⟩
theorem vx_var {i : Nat} (h : PE X e (tVar i)) : VX X b W e (vBor i) := pe_mono h fun σ H Q ⟨Zo, Z, ρ, Qd, Ed, v, ⟨d, e, q⟩, l, _⟩ => by
  rcases e with e | e
  · obtain ⟨u, h1, h2⟩ := v.shr i d e
    exact ⟨u, h1, l u H d Ex.refl v.g (.inl h2) q⟩
  · obtain ⟨a, h1, h2, h3, h4⟩ := v.own i d e
    exact ⟨.ref a, h1, l _ H d Ex.refl v.g (.inr ⟨a, rfl, fun z => h3 (v.zb a z), h2, h4⟩) q⟩
theorem ve_const {v : V} {p : PyData} (h : PE X e (tC v)) (r : ∀ (Z : Addr → Prop) (H : Hp), Rq Z H v p) : VE X b W e (vC (.py p)) :=
  pe_mono h fun σ H Q ⟨Zo, Z, ρ, Qd, Ed, v, q, l, _⟩ => l _ H (.py p) Ex.refl v.g (r Z H) q
theorem ve_int {i : Int} {j} : VE X b W (.Constant (.int i) j pos) (vC (.py (.int i))) := ve_const pe_int fun _ _ => .int i
theorem ve_bl {k : Bool} {j} : VE X b W (.Constant (.bool k) j pos) (vC (.py (.bool k))) := ve_const pe_bl fun _ _ => .bl k
theorem ve_non {j} : VE X b W (.Constant .none j pos) (vC (.py .none)) := ve_const pe_non fun _ _ => .non
theorem ve_str {x : Str} {j} : VE X b W (.Constant (.str x) j pos) (vC (.py (.str x))) := ve_const pe_str fun _ _ => .str x
theorem ve_raw {v : V} (h : PE X e (tC v)) : VE X b W e (vC (.raw v)) :=
  pe_mono h fun σ H Q ⟨Zo, Z, ρ, Qd, Ed, u, q, l, _⟩ => l v H (.raw v) Ex.refl u.g rfl q
/-! ### argument lists, displays -/
@[simp] def vNil : VA := fun _ Q _ => Q []
@[simp] def vCons (t : VT) (u : VA) : VA := fun ρ Q E => t ρ (fun d => u ρ (fun ds => Q (d :: ds)) E) E
theorem va_nil : VAs X b W [] vNil := pa_mono pa_nil fun σ H Q ⟨Zo, Z, ρ, Qd, Ed, v, q, l, _⟩ => l [] H [] Ex.refl v.g .nil q
theorem va_cons {u : VA} (h : VE X b W e t) (k : VAs X b W es u) (hs : starEach (e :: es) X.env = (false, eval e X.env) :: starEach es X.env := by rfl) : VAs X b W (e :: es) (vCons t u) :=
  pa_mono (pa_cons h k hs) fun σ H Q ⟨Zo, Z, ρ, Qd, Ed, v, q, l, m⟩ => ⟨Zo, Z, ρ, _, Ed, v, q, fun x H1 d x1 g1 r1 q1 =>
    ⟨Zo, Z, ρ, _, Ed, v.ex x1 g1, q1, fun xs H2 ds x2 g2 r2 q2 => l (x :: xs) H2 (d :: ds) (x1.trans x2) g2 (.cons ((v.ex x1 g1).rp x2 r1) r2) q2, fun c y H2 er x2 g2 r2 q2 => m c y H2 er (x1.trans x2) g2 r2 q2⟩, m⟩
@[simp] def pys : List D → Option (List PyData)
  | [] => some []
  | .py p :: ds => (pys ds).map (p :: ·)
  | _ :: _ => none
theorem pys_of : ∀ {ds : List D} {ps : List PyData}, pys ds = some ps → ds = ps.map D.py
  | [], ps, h => by cases h; rfl
  | .py p :: ds, ps, h => by
    cases e : pys ds with
    | none => rw [pys, e] at h; cases h
    | some qs => rw [pys, e] at h; cases h; rw [List.map_cons, ← pys_of e]
  | .obj _ _ _ :: _, _, h => by cases h
  | .abs _ :: _, _, h => by cases h
  | .tps _ _ :: _, _, h => by cases h
  | .cls _ :: _, _, h => by cases h
  | .clm _ :: _, _, h => by cases h
  | .rob _ _ _ :: _, _, h => by cases h
  | .raw _ :: _, _, h => by cases h
  | .err _ _ _ _ :: _, _, h => by cases h
theorem Rqs.up' {Z : Addr → Prop} {H : Hp} {a : Addr} {o : HO} {v : List V} {ds : List PyData} (r : Rqs Z H v ds) (h : H a = none) : Rqs (fun c => Z c ∨ c = a) (upd H a o) v ds :=
  r.mono (fun c z => z.imp id fun e => by rw [e]; exact h) fun c u e _ => by
    rw [upd_ne (ne_of_none e h)]
    exact e
/-- a tuple, a list of written items -/
@[simp] def vTup (u : VA) : VT := fun ρ Q E => u ρ (fun ds => ∃ ps, pys ds = some ps ∧ ps.length ≤ sizeLine ∧ Q (.py (.tuple ps))) E
@[simp] def vLst (u : VA) : VT := fun ρ Q E => u ρ (fun ds => ∃ ps, pys ds = some ps ∧ ps.length ≤ sizeLine ∧ Q (.py (.list ps))) E
theorem Rps.pyL {Z : Addr → Prop} {H : Hp} {v : List V} {ds : List D} {ps : List PyData} (r : Rps b Z H v ds) (e : VL.pys ds = some ps) : Rqs Z H v ps := by
  rw [pys_of e] at r
  exact r.pys
theorem up {Z : Addr → Prop} {H : Hp} {a : Addr} {o : HO} (h : H a = none) : ∀ c u, H c = some u → ¬ Z c → upd H a o c = some u := fun c u e _ => by
  rw [upd_ne (ne_of_none e h)]
  exact e
theorem Rqs.up {Z : Addr → Prop} {H : Hp} {a : Addr} {o : HO} {v : List V} {ds : List PyData} (r : Rqs Z H v ds) (h : H a = none) : Rqs Z (upd H a o) v ds := r.mono (fun _ z => .inl z) (VL.up h)
theorem ve_tup {u : VA} {x1} (k : VAs X b W es u) : VE X b W (.Tuple es x1 pos) (vTup u) :=
  pe_mono (pe_tupF k) fun σ H Q ⟨Zo, Z, ρ, Qd, Ed, v, q, l, m⟩ => ⟨Zo, Z, ρ, _, Ed, v, q, fun xs H1 ds x1 g1 r1 ⟨ps, e, hl, q1⟩ => by
    have r2 := r1.pyL e
    refine ⟨by rw [r2.length]; exact hl, fun p o hp ho => l _ _ _ (x1.trans (Ex.new hp)) (Bg.new g1 hp) ?_ q1⟩
    exact Rq.tup upd_same ho ((v.ex x1 g1).fresh hp) (r2.up hp), m⟩
theorem vn_lst {u : VA} (k : VAs X b W es u) : VN X b W (.List es pos) (vLst u) :=
  pe_mono (pe_lst k) fun σ H Q ⟨Zo, Z, ρ, Qd, Ed, v, q, l, m⟩ => ⟨Zo, Z, ρ, _, Ed, v, q, fun xs H1 ds x1 g1 r1 ⟨ps, e, hl, q1⟩ => (by
    have r2 := r1.pyL e
    refine ⟨by rw [r2.length]; exact hl, fun p hp => l _ _ (.py (.list ps)) (x1.trans (Ex.new hp)) (Bg.new g1 hp) ⟨p, rfl, ?_, xs, upd_same, r2.up' hp⟩ q1⟩
    cases e : H p with
    | none => rfl
    | some o =>
      by_cases hb : b.B p
      · exact absurd hp (b.dom _ _ g1 hb)
      · rw [x1 p o e hb] at hp; cases hp), m⟩
end
end VL
set_option Elab.async false
set_option linter.all false
set_option maxRecDepth 100000
set_option maxHeartbeats 4000000
namespace VL
open PySem PySem.Spec PyProof.Rows L2
/-! ### what a borrowed value is -/
section
variable {b : Bg} {Z : Addr → Prop} {H : Hp} {v : V}
theorem Rb.list {ds : List PyData} (r : Rb b Z H v (.py (.list ds))) : ∃ a xs, v = .ref a ∧ H a = some (.lst xs) ∧ Rqs Z H xs ds := by
  rcases r with r | ⟨a, e, _, _, xs, h, q⟩
  · cases r with
    | lst e n q => exact ⟨_, _, rfl, e, q⟩
  · exact ⟨a, xs, e, h, q⟩
theorem Rb.dict {ds : List (PyData × PyData)} (r : Rb b Z H v (.py (.dict ds))) : ∃ a xs, v = .ref a ∧ H a = some (.dK xs) ∧ Rqk Z H xs ds := by
  rcases r with r | ⟨a, e, _, _, xs, h, q⟩
  · cases r with
    | dct e n q => exact ⟨_, _, rfl, e, q⟩
  · exact ⟨a, xs, e, h, q⟩
theorem Rb.tuple {ds : List PyData} (r : Rb b Z H v (.py (.tuple ds))) : ∃ a o xs, v = .ref a ∧ H a = some (HO.th o xs) ∧ o.dict = none ∧ ¬ Z a ∧ Rqs Z H xs ds := by
  rcases r with r | ⟨a, e, _, _, q⟩
  · cases r with
    | tup e d n q => exact ⟨_, _, _, rfl, e, d, n, q⟩
  · exact q.elim
theorem Rb.int {i : Int} (r : Rb b Z H v (.py (.int i))) : v = .int i := by
  rcases r with r | ⟨a, e, _, _, q⟩
  · cases r; rfl
  · exact q.elim
theorem Rb.str {i : Str} (r : Rb b Z H v (.py (.str i))) : v = .str i := by
  rcases r with r | ⟨a, e, _, _, q⟩
  · cases r; rfl
  · exact q.elim
theorem Rb.bool {i : Bool} (r : Rb b Z H v (.py (.bool i))) : v = .bl i := by
  rcases r with r | ⟨a, e, _, _, q⟩
  · cases r; rfl
  · exact q.elim
theorem Rb.none (r : Rb b Z H v (.py .none)) : v = .non := by
  rcases r with r | ⟨a, e, _, _, q⟩
  · cases r; rfl
  · exact q.elim
theorem Rb.obj {a : Addr} {n : Str} {fs : List (Str × PyData)} (r : Rb b Z H v (.obj a n fs)) : ∃ dx xs, v = .ref a ∧ H a = some (.ins (b.cls n) dx xs) ∧ Rqf Z H xs fs := by
  rcases r with ⟨dx, xs, e, h, _, q⟩ | ⟨a, e, _, _, rfl, dx, xs, h, q⟩
  · exact ⟨dx, xs, e, h, q⟩
  · exact ⟨dx, xs, e, h, q⟩
theorem Rb.ex {H' : Hp} (hk : ∀ a o, H a = some o → ¬ Z a → H' a = some o) (x : Ex b H H') {d : D} (r : Rb b Z H v d) : Rb b Z H' v d := by
  rcases r with r | ⟨a, e, nb, z, q⟩
  · exact .inl (r.mono (fun _ z => .inl z) hk)
  · exact .inr ⟨a, e, nb, z, q.mono (fun _ z => .inl z) hk fun o h => x a o h nb⟩
end
/-- the ground of a rule by values: G stands, B lies in Z, Z is there -/
structure Gd (b : Bg) (Z : Addr → Prop) (H : Hp) : Prop where
  g : b.G H
  zb : ∀ a, b.B a → Z a
  dom : ∀ a, Z a → H a ≠ none
theorem VOk.gd {b : Bg} {Zo Z : Addr → Prop} {σ : L2.St} {H : Hp} {ρ : VEnv} (v : VOk b Zo Z σ H ρ) : Gd b Z H := ⟨v.g, fun a z => v.zo a (v.zb a z), v.dom⟩
section
variable {b : Bg} {Z : Addr → Prop} {H : Hp}
theorem Gd.fresh (g : Gd b Z H) {a : Addr} (h : H a = none) : ¬ Z a := fun z => g.dom a z h
theorem Gd.new (g : Gd b Z H) {a : Addr} {o : HO} (h : H a = none) : b.G (upd H a o) := Bg.new g.g h
end
/-- a rule by the heap's values serves a reading g over values; R: what comes of it -/
def OpD (b : Bg) (R : (Addr → Prop) → Hp → Hp → V → D → Prop) (r : R2) (g : D → D → (D → Prop) → Prop) : Prop :=
  ∀ (Z : Addr → Prop) (H : Hp) (x y : V) (dx dy : D) (Q : VK) (Qd : D → Prop), Gd b Z H → Rb b Z H x dx → Rb b Z H y dy → g dx dy Qd →
    (∀ v H' d, Ex b H H' → b.G H' → R Z H H' v d → Qd d → Q v H') → r x y H Q
abbrev RE (b : Bg) : (Addr → Prop) → Hp → Hp → V → D → Prop := fun Z _ H v d => Rp b Z H v d
abbrev RN (b : Bg) : (Addr → Prop) → Hp → Hp → V → D → Prop := fun Z H0 H v d => Rn b Z H0 H v d
@[simp] def vBin (g : D → D → (D → Prop) → Prop) (ta tb : VT) : VT := fun ρ Q E => ta ρ (fun x => tb ρ (fun y => g x y Q) E) E
@[simp] def vUn (g : D → (D → Prop) → Prop) (ta : VT) : VT := fun ρ Q E => ta ρ (fun x => g x Q) E
theorem Rn.of {b : Bg} {Z : Addr → Prop} {H H1 H2 : Hp} {v : V} {d : D} (g : b.G H1) (x : Ex b H H1) (r : Rn b Z H1 H2 v d) : Rn b Z H H2 v d := by
  obtain ⟨a, e, h, o⟩ := r
  refine ⟨a, e, ?_, o⟩
  cases q : H a with
  | none => rfl
  | some u =>
    by_cases hb : b.B a
    · exact absurd h (b.dom _ _ g hb)
    · rw [x a u q hb] at h; cases h
section
variable {X : Cx} {b : Bg} {W : WX} {e e1 e2 e3 : Expr} {es : List Expr} {t t1 t2 t3 : VT} {pos : Pos} {r : R2} {g : D → D → (D → Prop) → Prop}
/-- the core of all rules of two values -/
theorem core2 {R : (Addr → Prop) → Hp → Hp → V → D → Prop} (hR : ∀ Z H H1 H2 v d, b.G H1 → Ex b H H1 → R Z H1 H2 v d → R Z H H2 v d) (hd : OpD b R r g) :
    ∀ σ H Q, LE b W R (vBin g t1 t2) σ H Q → tOp r (LE b W (fun Z _ H v d => Rb b Z H v d) t1) (LE b W (fun Z _ H v d => Rb b Z H v d) t2) σ H Q :=
  fun σ H Q ⟨Zo, Z, ρ, Qd, Ed, v, q, l, m⟩ => ⟨Zo, Z, ρ, _, Ed, v, q, fun x H1 d x1 g1 r1 q1 =>
    ⟨Zo, Z, ρ, _, Ed, v.ex x1 g1, q1, fun y H2 d2 x2 g2 r2 q2 =>
      hd Z H2 x y d d2 Q Qd ((v.ex x1 g1).ex x2 g2).gd (r1.ex ((v.ex x1 g1).keep x2) x2) r2 q2 fun u H3 d3 x3 g3 r3 q3 => l u H3 d3 ((x1.trans x2).trans x3) g3 (hR _ _ _ _ _ _ g2 (x1.trans x2) r3) q3,
      fun c z H2 er x2 g2 r2 q2 => m c z H2 er (x1.trans x2) g2 r2 q2⟩, m⟩
theorem hRE : ∀ (Z : Addr → Prop) (H H1 H2 : Hp) (v : V) (d : D), b.G H1 → Ex b H H1 → RE b Z H1 H2 v d → RE b Z H H2 v d := fun _ _ _ _ _ _ _ _ r => r
theorem hRN : ∀ (Z : Addr → Prop) (H H1 H2 : Hp) (v : V) (d : D), b.G H1 → Ex b H H1 → RN b Z H1 H2 v d → RN b Z H H2 v d := fun _ _ _ _ _ _ g x r => r.of g x
theorem ve_op {op : Operator} (ho : OpR X (binaryOp op) r) (hd : OpD b (RE b) r g) (h1 : VX X b W e1 t1) (h2 : VX X b W e2 t2) : VE X b W (.BinOp e1 op e2 pos) (vBin g t1 t2) :=
  pe_mono (pe_op ho h1 h2) (core2 hRE hd)
theorem ve_cmp {op : CmpOp} (ho : OpR X (compareOp op) r) (hd : OpD b (RE b) r g) (h1 : VX X b W e1 t1) (h2 : VX X b W e2 t2) (hm : behindInMarks op e2 = false) : VE X b W (.Compare e1 [op] [e2] pos) (vBin g t1 t2) :=
  pe_mono (pe_cmpR ho h1 h2 hm) (core2 hRE hd)
/-- a value that is a bool, as a test -/
@[simp] def vTst (t : VT) : VB := fun ρ Q E => t ρ (fun d => ∃ k, d = .py (.bool k) ∧ Q k) E
theorem core2t (hd : OpD b (RE b) r g) : ∀ σ H Q, LB b W (vTst (vBin g t1 t2)) σ H Q → tTest (tOp r (LE b W (fun Z _ H v d => Rb b Z H v d) t1) (LE b W (fun Z _ H v d => Rb b Z H v d) t2)) σ H Q :=
  fun σ H Q ⟨Zo, Z, ρ, Qd, Ed, v, q, l, m⟩ => core2 (t1 := t1) (t2 := t2) hRE hd σ H _ ⟨Zo, Z, ρ, _, Ed, v, q, fun x H1 d x1 g1 r1 ⟨k, e, q1⟩ => ⟨k, by
    subst e
    exact Rb.bool (b := b) (.inl r1), l k H1 x1 g1 q1⟩, m⟩
theorem vt_cmp {op : CmpOp} (ho : OpR X (compareOp op) r) (hd : OpD b (RE b) r g) (h1 : VX X b W e1 t1) (h2 : VX X b W e2 t2) (hm : behindInMarks op e2 = false) : VTe X b W (.Compare e1 [op] [e2] pos) (vTst (vBin g t1 t2)) :=
  pt_mono (pt_cmpR ho h1 h2 hm) (core2t hd)
/-- any expression whose value is a bool, as a test -/
theorem vt_val (h : VX X b W e t) (he : ∀ whole, isTrue e X.env whole = (do let v ← whole; standAt e.pos; holding [v] (truthy v)) := by intro _; rfl) : VTe X b W e (vTst t) :=
  pt_mono (pt_val h he) fun σ H Q ⟨Zo, Z, ρ, Qd, Ed, v, q, l, m⟩ => ⟨Zo, Z, ρ, _, Ed, v, q, fun x H1 d x1 g1 r1 ⟨k, e, q1⟩ => ⟨k, by
    subst e
    exact r1.bool, l k H1 x1 g1 q1⟩, m⟩
/-! ### arithmetic -/
@[simp] def gAdd : D → D → (D → Prop) → Prop
  | .py (.int i), .py (.int j), Q => Q (.py (.int (i + j)))
  | .py (.str x), .py (.str y), Q => x.length + y.length ≤ sizeLine ∧ Q (.py (.str (x ++ y)))
  | .py (.list x), .py (.list y), Q => x.length + y.length ≤ sizeLine ∧ Q (.py (.list (x ++ y)))
  | .py (.tuple x), .py (.tuple y), Q => x.length + y.length ≤ sizeLine ∧ Q (.py (.tuple (x ++ y)))
  | _, _, _ => False
@[simp] def gCat : D → D → (D → Prop) → Prop
  | .py (.list x), .py (.list y), Q => x.length + y.length ≤ sizeLine ∧ Q (.py (.list (x ++ y)))
  | _, _, _ => False
theorem rn_catL : OpD b (RN b) rCat gCat := by
  intro Z H x y dx dy Q Qd gd rx ry h k
  match dx, dy, h, rx, ry with
  | .py (.list xs), .py (.list ys), ⟨hl, h⟩, rx, ry =>
    obtain ⟨a, us, rfl, ha, qa⟩ := rx.list
    obtain ⟨c, ws, rfl, hc, qc⟩ := ry.list
    refine ⟨a, c, us, ws, rfl, rfl, ha, hc, by rw [qa.length, qc.length]; exact hl, fun p hp => k _ _ (.py (.list (xs ++ ys))) (Ex.new hp) (gd.new hp) ⟨p, rfl, hp, _, upd_same, (qa.append qc).up' hp⟩ h⟩
theorem OpD.toE {r : R2} {g : D → D → (D → Prop) → Prop} (h : OpD b (RN b) r g) : OpD b (RE b) r g := fun Z H x y dx dy Q Qd gd rx ry q k =>
  h Z H x y dx dy Q Qd gd rx ry q fun v H' d x1 g1 ⟨a, e, n, o⟩ q1 => k v H' d x1 g1 (by subst e; exact o.rp (fun _ z => .inl z) (gd.fresh n)) q1
theorem rd_add : OpD b (RE b) (fun x y H Q => rI0 (fun i j => .int (i + j)) x y H Q ∨ (fun x y H Q => (∃ i j, x = .str i ∧ y = .str j ∧ i.length + j.length ≤ sizeLine ∧ Q (.str (i ++ j)) H) ∨ (fun x y H Q => rCat x y H Q ∨ rCatF X.K x y H Q) x y H Q) x y H Q) gAdd := by
  intro Z H x y dx dy Q Qd gd rx ry h k
  match dx, dy, h, rx, ry with
  | .py (.int i), .py (.int j), h, rx, ry =>
    rw [rx.int, ry.int]
    exact .inl ⟨i, j, rfl, rfl, k _ H (.py (.int (i + j))) Ex.refl gd.g (.int _) h⟩
  | .py (.str i), .py (.str j), ⟨hl, h⟩, rx, ry =>
    rw [rx.str, ry.str]
    exact .inr (.inl ⟨i, j, rfl, rfl, hl, k _ H (.py (.str (i ++ j))) Ex.refl gd.g (.str _) h⟩)
  | .py (.list xs), .py (.list ys), h, rx, ry =>
    exact .inr (.inr (.inl (OpD.toE rn_catL Z H x y (.py (.list xs)) (.py (.list ys)) Q Qd gd rx ry h k)))
  | .py (.tuple xs), .py (.tuple ys), ⟨hl, h⟩, rx, ry =>
    obtain ⟨a, oa, us, rfl, ha, da, na, qa⟩ := rx.tuple
    obtain ⟨c, oc, ws, rfl, hc, dc, nc, qc⟩ := ry.tuple
    refine .inr (.inr (.inr ⟨a, c, us, ws, rfl, rfl, SqT.th ha, SqT.th hc, by rw [qa.length, qc.length]; exact hl, fun e => ?_, fun _ e => ?_, fun _ _ p o hp ho => ?_⟩))
    · subst e
      cases qa
      exact k _ H (.py (.tuple ys)) Ex.refl gd.g (.tup hc dc nc qc) h
    · subst e
      cases qc
      rw [List.append_nil] at h
      exact k _ H (.py (.tuple xs)) Ex.refl gd.g (.tup ha da na qa) h
    · exact k _ _ (.py (.tuple (xs ++ ys))) (Ex.new hp) (gd.new hp) (.tup upd_same ho (gd.fresh hp) ((qa.append qc).up hp)) h
theorem ve_add (h1 : VX X b W e1 t1) (h2 : VX X b W e2 t2) : VE X b W (.BinOp e1 .Add e2 pos) (vBin gAdd t1 t2) := ve_op (OpR.or op_add (OpR.or op_add_str (OpR.or op_cat op_catF))) rd_add h1 h2
/-- ints in, under C; a plain value out -/
@[simp] def gI (C : Int → Int → Prop) (f : Int → Int → PyData) : D → D → (D → Prop) → Prop
  | .py (.int i), .py (.int j), Q => C i j ∧ Q (.py (f i j))
  | _, _, _ => False
theorem rd_I {C : Int → Int → Prop} {f : Int → Int → V} {f' : Int → Int → PyData} (hf : ∀ (Z : Addr → Prop) (H : Hp) i j, Rq Z H (f i j) (f' i j)) : OpD b (RE b) (rI C f) (gI C f') := by
  intro Z H x y dx dy Q Qd gd rx ry h k
  match dx, dy, h, rx, ry with
  | .py (.int i), .py (.int j), ⟨hc, h⟩, rx, ry =>
    rw [rx.int, ry.int]
    exact ⟨i, j, rfl, rfl, hc, k _ H (.py (f' i j)) Ex.refl gd.g (hf Z H i j) h⟩
/-- .. without a condition -/
@[simp] def gI0 (f : Int → Int → PyData) : D → D → (D → Prop) → Prop
  | .py (.int i), .py (.int j), Q => Q (.py (f i j))
  | _, _, _ => False
theorem rd_I0 {f : Int → Int → V} {f' : Int → Int → PyData} (hf : ∀ (Z : Addr → Prop) (H : Hp) i j, Rq Z H (f i j) (f' i j)) : OpD b (RE b) (rI0 f) (gI0 f') := by
  intro Z H x y dx dy Q Qd gd rx ry h k
  match dx, dy, h, rx, ry with
  | .py (.int i), .py (.int j), h, rx, ry =>
    rw [rx.int, ry.int]
    exact ⟨i, j, rfl, rfl, k _ H (.py (f' i j)) Ex.refl gd.g (hf Z H i j) h⟩
abbrev gSub := gI0 fun i j => .int (i - j)
abbrev gMod := gI (fun _ j => 0 < j) fun i j => .int (i % j)
abbrev gPow := gI CPow fun i j => .int (i ^ j.toNat)
abbrev gLt := gI0 fun i j => .bool (decide (i < j))
abbrev gLe := gI0 fun i j => .bool (decide (i ≤ j))
abbrev gGt := gI0 fun i j => .bool (decide (j < i))
theorem ve_sub (h1 : VX X b W e1 t1) (h2 : VX X b W e2 t2) : VE X b W (.BinOp e1 .Sub e2 pos) (vBin gSub t1 t2) := ve_op op_sub (rd_I0 fun _ _ _ _ => .int _) h1 h2
theorem ve_mod (h1 : VX X b W e1 t1) (h2 : VX X b W e2 t2) : VE X b W (.BinOp e1 .Mod e2 pos) (vBin gMod t1 t2) := ve_op op_mod (rd_I fun _ _ _ _ => .int _) h1 h2
theorem ve_pow (h1 : VX X b W e1 t1) (h2 : VX X b W e2 t2) : VE X b W (.BinOp e1 .Pow e2 pos) (vBin gPow t1 t2) := ve_op op_pow (rd_I fun _ _ _ _ => .int _) h1 h2
theorem ve_gt (h1 : VX X b W e1 t1) (h2 : VX X b W e2 t2) : VE X b W (.Compare e1 [.Gt] [e2] pos) (vBin gGt t1 t2) := ve_cmp op_gt (rd_I0 fun _ _ _ _ => .bl _) h1 h2 (nobehind _ (by decide) (by decide))
theorem vt_lt (h1 : VX X b W e1 t1) (h2 : VX X b W e2 t2) : VTe X b W (.Compare e1 [.Lt] [e2] pos) (vTst (vBin gLt t1 t2)) := vt_cmp op_lt (rd_I0 fun _ _ _ _ => .bl _) h1 h2 (nobehind _ (by decide) (by decide))
theorem vt_gt (h1 : VX X b W e1 t1) (h2 : VX X b W e2 t2) : VTe X b W (.Compare e1 [.Gt] [e2] pos) (vTst (vBin gGt t1 t2)) := vt_cmp op_gt (rd_I0 fun _ _ _ _ => .bl _) h1 h2 (nobehind _ (by decide) (by decide))
end
end VL
set_option Elab.async false
set_option linter.all false
set_option maxRecDepth 100000
set_option maxHeartbeats 4000000
namespace VL
open PySem PySem.Spec PyProof.Rows L2
abbrev nz : Addr → Prop := fun _ => False
section
variable {X : Cx} {pins : List (Addr × Obj)} {σ : L2.St} {H : Hp} {s : Shared} {Z : Addr → Prop}
theorem keys_read {h : Heap} {P : Program} {w : World} : ∀ {es : List DictEntry} {kvs : List (Key × V)} {vs : List (Key × Value)}, KV kvs vs → Pairs (mixKind P w) es vs →
    ReadsAll h (es.map (·.key)) (kvs.map fun p => kD p.1) [] ∧ Vals (kvs.map (·.2)) (es.map (·.val))
  | _, _, _, .nil, .nil => ⟨.nil, .nil⟩
  | _, _, _, .cons (a := p) (b := q) r t, .cons (e := e) hk hv hp => by
    obtain ⟨i1, i2⟩ := keys_read (h := h) t hp
    obtain ⟨p1, p2⟩ := p
    obtain ⟨q1, q2⟩ := q
    obtain ⟨e1, e2⟩ := r
    have e1' : p1 = q1 := e1
    subst e1'
    refine ⟨?_, .cons (show L2.RelV p2 e.val by rw [hv]; exact e2) i2⟩
    have hk' : keyIs p1 e.key = true := hk
    rcases keyIs_shape hk' with ⟨i, u, a1, a2⟩ | ⟨x, u, a1, a2⟩
    · subst a1
      rw [List.map_cons, List.map_cons, a2]
      exact ReadsAll.cons (as := []) (Reads.int i u) i1
    · subst a1
      rw [List.map_cons, List.map_cons, a2]
      exact ReadsAll.cons (as := []) (Reads.str x u) i1
mutual
theorem Rq.reads (I : Inv X pins σ H s) : ∀ {v : V} {d : PyData}, Rq Z H v d → ∀ u, RelV v u → ∃ as, Reads s.heap u d as ∧ ∀ a ∈ as, H a ≠ none
  | _, _, .non, _, r => by cases r; exact ⟨_, Reads.none, fun _ h => nomatch h⟩
  | _, _, .bl k, _, r => by cases r; exact ⟨_, Reads.bool k, fun _ h => nomatch h⟩
  | _, _, .int i, _, r => by obtain ⟨t, rfl⟩ := r; exact ⟨_, Reads.int i t, fun _ h => nomatch h⟩
  | _, _, .str x, _, r => by obtain ⟨t, rfl⟩ := r; exact ⟨_, Reads.str x t, fun _ h => nomatch h⟩
  | _, _, .lst (a := a) e n q, _, r => by
    cases r
    obtain ⟨its, rv, ⟨o, m, ho, hc, _, hd⟩, _⟩ := I.list (SqL.of e)
    obtain ⟨as, h1, h2⟩ := Rqs.reads I q _ rv
    refine ⟨_, Reads.list ho hc hd h1, fun b hb => ?_⟩
    rcases List.mem_cons.mp hb with rfl | hb
    · rw [e]; simp
    · exact h2 b hb
  | _, _, .tup (a := a) e _ n q, _, r => by
    cases r
    obtain ⟨its, rv, ⟨o, ho, hc, m, hd⟩, _⟩ := I.tuple (SqT.th e)
    obtain ⟨as, h1, h2⟩ := Rqs.reads I q _ rv
    exact ⟨_, Reads.tuple ho hc hd h1, h2⟩
  | _, _, .dct (a := a) (kvs := kvs) (ds := ds) e n q, _, r => by
    cases r
    obtain ⟨_, _, vs, kv, o, es, ep, ho, he, hd, _, hp, _⟩ := dk_of I.hok e
    obtain ⟨k1, k2⟩ := keys_read (h := s.heap) kv hp
    obtain ⟨bs, h1, h2, h3⟩ := Rqk.reads I q _ k2
    rw [h3] at k1
    refine ⟨_, Reads.dict ho he.1 hd k1 h1, fun b hb => ?_⟩
    rcases List.mem_append.mp hb with hb | hb
    · rw [List.mem_singleton.mp hb, e]; simp
    · exact h2 b hb
theorem Rqs.reads (I : Inv X pins σ H s) : ∀ {v : List V} {d : List PyData}, Rqs Z H v d → ∀ u, Vals v u → ∃ as, ReadsAll s.heap u d as ∧ ∀ a ∈ as, H a ≠ none
  | _, _, .nil, _, r => by cases r; exact ⟨_, ReadsAll.nil, fun _ h => nomatch h⟩
  | _, _, .cons q t, _, r => by
    cases r with
    | cons r rr =>
      obtain ⟨as, h1, h2⟩ := Rq.reads I q _ r
      obtain ⟨bs, h3, h4⟩ := Rqs.reads I t _ rr
      exact ⟨_, ReadsAll.cons h1 h3, fun a ha => (List.mem_append.mp ha).elim (h2 a) (h4 a)⟩
theorem Rqk.reads (I : Inv X pins σ H s) : ∀ {v : List (Key × V)} {d : List (PyData × PyData)}, Rqk Z H v d → ∀ u, Vals (v.map (·.2)) u → ∃ as, ReadsAll s.heap u (d.map (·.2)) as ∧ (∀ a ∈ as, H a ≠ none) ∧ v.map (fun p => kD p.1) = d.map (·.1)
  | _, _, .nil, _, r => by cases r; exact ⟨_, ReadsAll.nil, fun _ h => (nomatch h), rfl⟩
  | _, _, .cons q t, _, r => by
    cases r with
    | cons r rr =>
      obtain ⟨as, h1, h2⟩ := Rq.reads I q _ r
      obtain ⟨bs, h3, h4, h5⟩ := Rqk.reads I t _ rr
      exact ⟨_, ReadsAll.cons h1 h3, fun a ha => (List.mem_append.mp ha).elim (h2 a) (h4 a), by rw [List.map_cons, List.map_cons, h5]⟩
end
end
/-- a borrowed plain value, as data -/
theorem Rb.q {b : Bg} {Z : Addr → Prop} {H : Hp} {v : V} {p : PyData} (r : Rb b Z H v (.py p)) : Rq nz H v p := by
  rcases r with r | ⟨a, e, _, _, q⟩
  · exact Rq.mono (fun _ z => z.elim) (fun _ _ e _ => e) r
  · subst e
    exact Ow.rp (b := b) (d := .py p) (Z' := nz) (fun _ z => z.elim) (fun z => z) q
/-! ### ==, in -/
section
variable {X : Cx}
def rEqP : R2 := fun x y H Q => ∃ p q, Rq nz H x p ∧ Rq nz H y q ∧ p.plain = true ∧ q.plain = true ∧ (p.depth ≤ 60 ∨ q.depth ≤ 60) ∧ Q (.bl (p.eqv q)) H
def rNeP : R2 := fun x y H Q => ∃ p q, Rq nz H x p ∧ Rq nz H y q ∧ p.plain = true ∧ q.plain = true ∧ (p.depth ≤ 60 ∨ q.depth ≤ 60) ∧ Q (.bl (!p.eqv q)) H
theorem op_eqP (hu : X.A.units + 64 < cLine) : OpR X (compareOp .Eq) rEqP := by
  intro pins s σ H x y v u Q I rx ry ⟨p, q, hp, hq, p1, q1, hd, h⟩
  obtain ⟨as, r1, _⟩ := hp.reads I _ rx
  obtain ⟨bs, r2, _⟩ := hq.reads I _ ry
  exact SeqAt.eq_plain r1 r2 p1 q1 (by omega) ⟨.bl _, H, I, rfl, h⟩
theorem op_neP (hu : X.A.units + 64 < cLine) : OpR X (compareOp .NotEq) rNeP := by
  intro pins s σ H x y v u Q I rx ry ⟨p, q, hp, hq, p1, q1, hd, h⟩
  obtain ⟨as, r1, _⟩ := hp.reads I _ rx
  obtain ⟨bs, r2, _⟩ := hq.reads I _ ry
  exact SeqAt.ne_plain r1 r2 p1 q1 (by omega) ⟨.bl _, H, I, rfl, h⟩
def rInP (neg : Bool) : R2 := fun x y H Q => ∃ p qs, Rq nz H x p ∧ (Rq nz H y (.list qs) ∨ Rq nz H y (.tuple qs)) ∧ p.plain = true ∧ PyData.plainAll qs = true ∧ (p.depth ≤ 60 ∨ PyData.depthAll qs ≤ 60) ∧ Q (.bl (neg ^^ qs.any fun y => PyData.eqv y p)) H
theorem op_inP (hu : X.A.units + 64 < cLine) : OpR X (compareOp .In) (rInP false) := by
  intro pins s σ H x y v u Q I rx ry ⟨p, q, hp, hq, p1, q1, hd, h⟩
  obtain ⟨as, r1, _⟩ := hp.reads I _ rx
  rw [Bool.false_xor] at h
  rcases hq with hq | hq
  · obtain ⟨bs, r2, _⟩ := hq.reads I _ ry
    exact SeqAt.in_list_data r2 r1 q1 p1 (by omega) ⟨.bl _, H, I, rfl, h⟩
  · obtain ⟨bs, r2, _⟩ := hq.reads I _ ry
    exact SeqAt.in_tuple_data r2 r1 q1 p1 (by omega) ⟨.bl _, H, I, rfl, h⟩
theorem op_notInP (hu : X.A.units + 64 < cLine) : OpR X (compareOp .NotIn) (rInP true) := by
  intro pins s σ H x y v u Q I rx ry ⟨p, q, hp, hq, p1, q1, hd, h⟩
  obtain ⟨as, r1, _⟩ := hp.reads I _ rx
  rw [Bool.true_xor] at h
  rcases hq with hq | hq
  · obtain ⟨bs, r2, _⟩ := hq.reads I _ ry
    exact SeqAt.notIn_list_data r2 r1 q1 p1 (by omega) ⟨.bl _, H, I, rfl, h⟩
  · obtain ⟨bs, r2, _⟩ := hq.reads I _ ry
    exact SeqAt.notIn_tuple_data r2 r1 q1 p1 (by omega) ⟨.bl _, H, I, rfl, h⟩
end
/-- p == q, whatever plain data they are -/
@[simp] def gEq : D → D → (D → Prop) → Prop
  | .py (.tuple xs), .py (.tuple []), Q => Q (.py (.bool xs.isEmpty))
  | .py (.list xs), .py (.list []), Q => Q (.py (.bool xs.isEmpty))
  | .py p, .py q, Q => p.plain = true ∧ q.plain = true ∧ (p.depth ≤ 60 ∨ q.depth ≤ 60) ∧ Q (.py (.bool (p.eqv q)))
  | _, _, _ => False
@[simp] def gNe : D → D → (D → Prop) → Prop
  | .py (.tuple xs), .py (.tuple []), Q => Q (.py (.bool (!xs.isEmpty)))
  | .py (.list xs), .py (.list []), Q => Q (.py (.bool (!xs.isEmpty)))
  | .py p, .py q, Q => p.plain = true ∧ q.plain = true ∧ (p.depth ≤ 60 ∨ q.depth ≤ 60) ∧ Q (.py (.bool (!p.eqv q)))
  | _, _, _ => False
/-- x in c, c a list, a tuple, a text -/
@[simp] def gIn (neg : Bool) : D → D → (D → Prop) → Prop
  | .py (.str x), .py (.str y), Q => Q (.py (.bool (neg ^^ Txt.contains y x)))
  | .py p, .py (.list q), Q => p.plain = true ∧ PyData.plainAll q = true ∧ (p.depth ≤ 60 ∨ PyData.depthAll q ≤ 60) ∧ Q (.py (.bool (neg ^^ q.any fun y => PyData.eqv y p)))
  | .py p, .py (.tuple q), Q => p.plain = true ∧ PyData.plainAll q = true ∧ (p.depth ≤ 60 ∨ PyData.depthAll q ≤ 60) ∧ Q (.py (.bool (neg ^^ q.any fun y => PyData.eqv y p)))
  | _, _, _ => False
section
variable {X : Cx} {b : Bg} {W : WX} {e e1 e2 e3 : Expr} {es : List Expr} {t t1 t2 t3 : VT} {pos : Pos} {r : R2} {g : D → D → (D → Prop) → Prop}
/-- beside an empty one: no item is looked at -/
def rZ (K : PySem.W.Frag) (f : Bool → Bool) : R2 := fun x y H Q => ∃ a c xs, x = .ref a ∧ y = .ref c ∧ ((SqL K H a xs ∧ SqL K H c []) ∨ (SqT K H a xs ∧ SqT K H c [])) ∧ Q (.bl (f xs.isEmpty)) H
theorem op_eqZ (hu : X.A.units + 64 < cLine) : OpR X (compareOp .Eq) (rZ X.K id) := by
  intro pins s σ H x y v u Q I rx ry ⟨a, c, xs, ex, ey, hh, q⟩
  subst ex ey
  obtain rfl : v = .ref a := rx
  obtain rfl : u = .ref c := ry
  rcases hh with ⟨h1, h2⟩ | ⟨h1, h2⟩
  · obtain ⟨its, r, p, _⟩ := I.list h1
    obtain ⟨its2, r2, p2, _⟩ := I.list h2
    cases r2
    cases r with
    | nil => exact SeqAt.eq_listAt (e := fun _ => true) p.isList p2.isList rfl (by omega) (fun j h => absurd h (Nat.not_lt_zero j)) ⟨.bl _, H, I, rfl, q⟩
    | cons r rs => exact SeqAt.eq_list_lengthsAt p.isList p2.isList rfl (by omega) ⟨.bl _, H, I, rfl, q⟩
  · obtain ⟨its, r, p, _⟩ := I.tuple h1
    obtain ⟨its2, r2, p2, _⟩ := I.tuple h2
    cases r2
    refine SeqAt.eq_tupleAt (e := fun _ => true) p p2 (by omega) (fun j h1 h2 => absurd h2 (Nat.not_lt_zero j)) ⟨.bl _, H, I, ?_, q⟩
    cases r <;> simp [L2.RelV]
theorem op_neZ (hu : X.A.units + 64 < cLine) : OpR X (compareOp .NotEq) (rZ X.K not) := by
  intro pins s σ H x y v u Q I rx ry ⟨a, c, xs, ex, ey, hh, q⟩
  subst ex ey
  obtain rfl : v = .ref a := rx
  obtain rfl : u = .ref c := ry
  rcases hh with ⟨h1, h2⟩ | ⟨h1, h2⟩
  · obtain ⟨its, r, p, _⟩ := I.list h1
    obtain ⟨its2, r2, p2, _⟩ := I.list h2
    cases r2
    cases r with
    | nil => exact SeqAt.RcNeAt.lists (e := fun _ => true) p.isList p2.isList rfl (by omega) (fun j h => absurd h (Nat.not_lt_zero j)) _ _ _ _ ⟨.bl _, H, I, rfl, q⟩
    | cons r rs => exact SeqAt.RcNeAt.lists_lengths p.isList p2.isList rfl (by omega) _ _ _ _ ⟨.bl _, H, I, rfl, q⟩
  · obtain ⟨its, r, p, _⟩ := I.tuple h1
    obtain ⟨its2, r2, p2, _⟩ := I.tuple h2
    cases r2
    refine SeqAt.RcNeAt.tuples (e := fun _ => true) p p2 (by omega) (fun j h1 h2 => absurd h2 (Nat.not_lt_zero j)) _ _ _ _ ⟨.bl _, H, I, ?_, q⟩
    cases r <;> simp [L2.RelV]
theorem rz_of {f : Bool → Bool} {K : PySem.W.Frag} {Z : Addr → Prop} {H : Hp} {x y : V} {Q : VK} {Qd : D → Prop} {xs : List PyData} (gd : Gd b Z H) (h : Qd (.py (.bool (f xs.isEmpty)))) (k : ∀ v H' d, Ex b H H' → b.G H' → RE b Z H H' v d → Qd d → Q v H') :
    (Rb b Z H x (.py (.list xs)) → Rb b Z H y (.py (.list [])) → rZ K f x y H Q) ∧ (Rb b Z H x (.py (.tuple xs)) → Rb b Z H y (.py (.tuple [])) → rZ K f x y H Q) := by
  have ee : ∀ {us : List V}, Rqs Z H us xs → xs.isEmpty = us.isEmpty := fun q => by cases q <;> rfl
  refine ⟨fun rx ry => ?_, fun rx ry => ?_⟩
  · obtain ⟨a, us, rfl, ha, qa⟩ := rx.list
    obtain ⟨c, ws, rfl, hc, qc⟩ := ry.list
    cases qc
    exact ⟨a, c, us, rfl, rfl, .inl ⟨SqL.of ha, SqL.of hc⟩, k _ H (.py (.bool _)) Ex.refl gd.g (by rw [← ee qa]; exact .bl _) h⟩
  · obtain ⟨a, oa, us, rfl, ha, _, _, qa⟩ := rx.tuple
    obtain ⟨c, oc, ws, rfl, hc, _, _, qc⟩ := ry.tuple
    cases qc
    exact ⟨a, c, us, rfl, rfl, .inr ⟨SqT.th ha, SqT.th hc⟩, k _ H (.py (.bool _)) Ex.refl gd.g (by rw [← ee qa]; exact .bl _) h⟩
theorem rd_eq : OpD b (RE b) (fun x y H Q => rEqP x y H Q ∨ rZ X.K id x y H Q) gEq := by
  intro Z H x y dx dy Q Qd gd rx ry h k
  unfold gEq at h
  split at h
  · exact .inr ((rz_of (f := id) gd h k).2 rx ry)
  · exact .inr ((rz_of (f := id) gd h k).1 rx ry)
  · obtain ⟨h1, h2, h3, h⟩ := h
    exact .inl ⟨_, _, rx.q, ry.q, h1, h2, h3, k _ H (.py (.bool _)) Ex.refl gd.g (.bl _) h⟩
  · exact h.elim
theorem rd_ne : OpD b (RE b) (fun x y H Q => rNeP x y H Q ∨ rZ X.K not x y H Q) gNe := by
  intro Z H x y dx dy Q Qd gd rx ry h k
  unfold gNe at h
  split at h
  · exact .inr ((rz_of (f := not) gd h k).2 rx ry)
  · exact .inr ((rz_of (f := not) gd h k).1 rx ry)
  · obtain ⟨h1, h2, h3, h⟩ := h
    exact .inl ⟨_, _, rx.q, ry.q, h1, h2, h3, k _ H (.py (.bool _)) Ex.refl gd.g (.bl _) h⟩
  · exact h.elim
theorem ve_eq (hu : X.A.units + 64 < cLine) (h1 : VX X b W e1 t1) (h2 : VX X b W e2 t2) : VE X b W (.Compare e1 [.Eq] [e2] pos) (vBin gEq t1 t2) := ve_cmp (OpR.or (op_eqP hu) (op_eqZ hu)) rd_eq h1 h2 (nobehind _ (by decide) (by decide))
theorem vt_eq (hu : X.A.units + 64 < cLine) (h1 : VX X b W e1 t1) (h2 : VX X b W e2 t2) : VTe X b W (.Compare e1 [.Eq] [e2] pos) (vTst (vBin gEq t1 t2)) := vt_cmp (OpR.or (op_eqP hu) (op_eqZ hu)) rd_eq h1 h2 (nobehind _ (by decide) (by decide))
theorem vt_ne (hu : X.A.units + 64 < cLine) (h1 : VX X b W e1 t1) (h2 : VX X b W e2 t2) : VTe X b W (.Compare e1 [.NotEq] [e2] pos) (vTst (vBin gNe t1 t2)) := vt_cmp (OpR.or (op_neP hu) (op_neZ hu)) rd_ne h1 h2 (nobehind _ (by decide) (by decide))
def rNotInS2 : R2 := fun x y H Q => ∃ i j, x = .str i ∧ y = .str j ∧ Q (.bl (!Txt.contains j i)) H
theorem op_notInS2 : OpR X (compareOp .NotIn) rNotInS2 := fun pins s σ H x y v u Q I rx ry ⟨i, j, e1, e2, q⟩ => op_notIn_str pins s σ H x y v u Q I rx ry ⟨i, j, e1, e2, by
  have e : (Builtin.Str.occurrences j i 0 j.length 1).isEmpty = !Txt.contains j i := by unfold Txt.contains; rw [Bool.not_not]
  first | exact q | (rw [e]; exact q)⟩
theorem rd_in {neg : Bool} (r0 : R2) (h0 : ∀ (H : Hp) (i j : Str) (Q : VK), Q (.bl (neg ^^ Txt.contains j i)) H → r0 (.str i) (.str j) H Q) : OpD b (RE b) (fun x y H Q => r0 x y H Q ∨ rInP neg x y H Q) (gIn neg) := by
  intro Z H x y dx dy Q Qd gd rx ry h k
  have lst : ∀ {p : PyData} {q : List PyData}, Rb b Z H x (.py p) → Rb b Z H y (.py (.list q)) → (p.plain = true ∧ PyData.plainAll q = true ∧ (p.depth ≤ 60 ∨ PyData.depthAll q ≤ 60) ∧ Qd (.py (.bool (neg ^^ q.any fun y => PyData.eqv y p)))) → rInP neg x y H Q :=
    fun {p q} rx ry ⟨h1, h2, h3, h⟩ => ⟨p, q, rx.q, .inl ry.q, h1, h2, h3, k _ H (.py (.bool _)) Ex.refl gd.g (.bl _) h⟩
  have tup : ∀ {p : PyData} {q : List PyData}, Rb b Z H x (.py p) → Rb b Z H y (.py (.tuple q)) → (p.plain = true ∧ PyData.plainAll q = true ∧ (p.depth ≤ 60 ∨ PyData.depthAll q ≤ 60) ∧ Qd (.py (.bool (neg ^^ q.any fun y => PyData.eqv y p)))) → rInP neg x y H Q :=
    fun {p q} rx ry ⟨h1, h2, h3, h⟩ => ⟨p, q, rx.q, .inr ry.q, h1, h2, h3, k _ H (.py (.bool _)) Ex.refl gd.g (.bl _) h⟩
  match dx, dy, h, rx, ry with
  | .py (.str i), .py (.str j), h, rx, ry =>
    rw [rx.str, ry.str]
    exact .inl (h0 H i j Q (k _ H (.py (.bool _)) Ex.refl gd.g (.bl _) h))
  | .py .none, .py (.list q), h, rx, ry => exact .inr (lst rx ry h)
  | .py (.bool _), .py (.list q), h, rx, ry => exact .inr (lst rx ry h)
  | .py (.int _), .py (.list q), h, rx, ry => exact .inr (lst rx ry h)
  | .py (.str _), .py (.list q), h, rx, ry => exact .inr (lst rx ry h)
  | .py (.list _), .py (.list q), h, rx, ry => exact .inr (lst rx ry h)
  | .py (.tuple _), .py (.list q), h, rx, ry => exact .inr (lst rx ry h)
  | .py .none, .py (.tuple q), h, rx, ry => exact .inr (tup rx ry h)
  | .py (.bool _), .py (.tuple q), h, rx, ry => exact .inr (tup rx ry h)
  | .py (.int _), .py (.tuple q), h, rx, ry => exact .inr (tup rx ry h)
  | .py (.str _), .py (.tuple q), h, rx, ry => exact .inr (tup rx ry h)
  | .py (.list _), .py (.tuple q), h, rx, ry => exact .inr (tup rx ry h)
  | .py (.tuple _), .py (.tuple q), h, rx, ry => exact .inr (tup rx ry h)
  | .py (.dict _), .py (.list q), h, rx, ry => exact .inr (lst rx ry h)
  | .py (.dict _), .py (.tuple q), h, rx, ry => exact .inr (tup rx ry h)
theorem vt_notIn (hu : X.A.units + 64 < cLine) (h1 : VX X b W e1 t1) (h2 : VX X b W e2 t2) (hm : behindInMarks .NotIn e2 = false := by rfl) : VTe X b W (.Compare e1 [.NotIn] [e2] pos) (vTst (vBin (gIn true) t1 t2)) :=
  vt_cmp (OpR.or op_notInS2 (op_notInP hu)) (rd_in rNotInS2 fun H i j Q q => ⟨i, j, rfl, rfl, by rw [Bool.true_xor] at q; exact q⟩) h1 h2 hm
/-! ### is None -/
@[simp] def isNn : PyData → Bool
  | .none => true
  | _ => false
@[simp] def gIsN (neg : Bool) : D → D → (D → Prop) → Prop
  | .py p, .py .none, Q => Q (.py (.bool (neg ^^ isNn p)))
  | .raw v, .py .none, Q => Q (.py (.bool (neg ^^ decide (v = V.non))))
  | .obj _ _ _, .py .none, Q => Q (.py (.bool neg))
  | _, _, _ => False
theorem Rq.isN {Z : Addr → Prop} {H : Hp} {v : V} {p : PyData} (r : Rq Z H v p) : decide (v = V.non) = isNn p := by
  cases r <;> rfl
theorem rd_isN {neg : Bool} {f : Bool → Bool} (hf : ∀ k, f k = (neg ^^ k)) : OpD b (RE b) (fun x y H Q => y = .non ∧ Q (.bl (f (decide (x = .non)))) H) (gIsN neg) := by
  intro Z H x y dx dy Q Qd gd rx ry h k
  match dx, dy, h, rx, ry with
  | .py p, .py .none, h, rx, ry =>
    refine ⟨ry.none, ?_⟩
    rw [rx.q.isN, hf]
    exact k _ H (.py (.bool _)) Ex.refl gd.g (.bl _) h
  | .raw v, .py .none, h, rx, ry =>
    refine ⟨ry.none, ?_⟩
    have e : x = v := by
      rcases rx with r | ⟨a, e, _, _, q⟩
      · exact r
      · exact q.elim
    rw [hf, e]
    exact k _ H (.py (.bool _)) Ex.refl gd.g (.bl _) h
  | .obj _ _ _, .py .none, h, rx, ry =>
    refine ⟨ry.none, ?_⟩
    obtain ⟨dx, xs, e, _⟩ := rx.obj
    subst e
    rw [hf, decide_eq_false (by intro h; cases h), Bool.xor_false]
    exact k _ H (.py (.bool _)) Ex.refl gd.g (.bl _) h
theorem vt_isN (h1 : VX X b W e1 t1) (h2 : VX X b W e2 t2) : VTe X b W (.Compare e1 [.Is] [e2] pos) (vTst (vBin (gIsN false) t1 t2)) := vt_cmp op_isN (rd_isN (f := id) fun k => by rw [Bool.false_xor]; rfl) h1 h2 (nobehind _ (by decide) (by decide))
/-! ### chains, and, or, not, if -/
@[simp] def vChain (g g' : D → D → (D → Prop) → Prop) (ta tb tc : VT) : VT := fun ρ Q E => ta ρ (fun x => tb ρ (fun y => g x y fun z => ∃ k, z = .py (.bool k) ∧ if k = true then tc ρ (fun w => g' y w Q) E else Q (.py (.bool false))) E) E
theorem chain_core {r' : R2} {g' : D → D → (D → Prop) → Prop} (hd : OpD b (RE b) r g) (hd' : OpD b (RE b) r' g') :
    ∀ σ H Q, LE b W (RE b) (vChain g g' t1 t2 t3) σ H Q → tChain r r' (LE b W (fun Z _ H v d => Rb b Z H v d) t1) (LE b W (fun Z _ H v d => Rb b Z H v d) t2) (LE b W (fun Z _ H v d => Rb b Z H v d) t3) σ H Q :=
  fun σ H Q ⟨Zo, Z, ρ, Qd, Ed, v, q, l, m⟩ => ⟨Zo, Z, ρ, _, Ed, v, q, fun x H1 d x1 g1 r1 q1 =>
    ⟨Zo, Z, ρ, _, Ed, v.ex x1 g1, q1, fun y H2 d2 x2 g2 r2 q2 => by
      have v2 := (v.ex x1 g1).ex x2 g2
      refine hd Z H2 x y d d2 _ _ v2.gd (r1.ex ((v.ex x1 g1).keep x2) x2) r2 q2 fun u H3 d3 x3 g3 r3 ⟨k, e3, q3⟩ => ?_
      subst e3
      refine ⟨k, Rb.bool (b := b) (Z := Z) (H := H3) (.inl r3), ?_⟩
      cases k with
      | false => exact l _ H3 (.py (.bool false)) ((x1.trans x2).trans x3) g3 (Rq.bl false) q3
      | true => exact ⟨Zo, Z, ρ, _, Ed, v2.ex x3 g3, q3, fun w H4 d4 x4 g4 r4 q4 => hd' Z H4 y w d2 d4 Q Qd ((v2.ex x3 g3).ex x4 g4).gd ((r2.ex (v2.keep x3) x3).ex ((v2.ex x3 g3).keep x4) x4) r4 q4
            fun u5 H5 d5 x5 g5 r5 q5 => l u5 H5 d5 ((((x1.trans x2).trans x3).trans x4).trans x5) g5 r5 q5,
          fun c z H4 er x4 g4 r4 q4 => m c z H4 er (((x1.trans x2).trans x3).trans x4) g4 r4 q4⟩,
      fun c z H2 er x2 g2 r2 q2 => m c z H2 er (x1.trans x2) g2 r2 q2⟩, m⟩
theorem ve_chain {op op' : CmpOp} {r' : R2} {g' : D → D → (D → Prop) → Prop} (ho : OpR X (compareOp op) r) (hd : OpD b (RE b) r g) (ho' : OpR X (compareOp op') r') (hd' : OpD b (RE b) r' g')
    (h1 : VX X b W e1 t1) (h2 : VX X b W e2 t2) (h3 : VX X b W e3 t3) (hm : lastMarks [op, op'] [e2, e3] = false) : VE X b W (.Compare e1 [op, op'] [e2, e3] pos) (vChain g g' t1 t2 t3) :=
  pe_mono (pe_chain ho ho' h1 h2 h3 hm) (chain_core hd hd')
theorem ve_le2 (h1 : VX X b W e1 t1) (h2 : VX X b W e2 t2) (h3 : VX X b W e3 t3) : VE X b W (.Compare e1 [.LtE, .LtE] [e2, e3] pos) (vChain gLe gLe t1 t2 t3) :=
  ve_chain op_le (rd_I0 fun _ _ _ _ => .bl _) op_le (rd_I0 fun _ _ _ _ => .bl _) h1 h2 h3 (by show behindInMarks _ _ = false; exact nobehind _ (by decide) (by decide))
@[simp] def vAnd (ta tb : VT) : VT := fun ρ Q E => ta ρ (fun x => ∃ k, x = .py (.bool k) ∧ if k = true then tb ρ Q E else Q (.py (.bool false))) E
@[simp] def vOr (ta tb : VT) : VT := fun ρ Q E => ta ρ (fun x => ∃ k, x = .py (.bool k) ∧ if k = true then Q (.py (.bool true)) else tb ρ Q E) E
@[simp] def vNot (ta : VT) : VT := fun ρ Q E => ta ρ (fun x => ∃ k, x = .py (.bool k) ∧ Q (.py (.bool (!k)))) E
theorem ve_one {op} (h : VE X b W e t) : VE X b W (.BoolOp op [e] pos) t := pe_one h
theorem ve_and (h1 : VX X b W e1 t1) (h2 : VE X b W (.BoolOp .And (e2 :: es) pos) t2) : VE X b W (.BoolOp .And (e1 :: e2 :: es) pos) (vAnd t1 t2) :=
  pe_mono (pe_and h1 h2) fun σ H Q ⟨Zo, Z, ρ, Qd, Ed, v, q, l, m⟩ => ⟨Zo, Z, ρ, _, Ed, v, q, fun x H1 d x1 g1 r1 ⟨k, e, q1⟩ => by
    subst e
    refine ⟨k, r1.bool, ?_⟩
    cases k with
    | false => exact l _ H1 (.py (.bool false)) x1 g1 (Rq.bl false) q1
    | true => exact ⟨Zo, Z, ρ, _, Ed, v.ex x1 g1, q1, fun y H2 d2 x2 g2 r2 q2 => l y H2 d2 (x1.trans x2) g2 r2 q2, fun c z H2 er x2 g2 r2 q2 => m c z H2 er (x1.trans x2) g2 r2 q2⟩, m⟩
theorem ve_not (h1 : VX X b W e1 t1) : VE X b W (.UnaryOp .Not e1 pos) (vNot t1) :=
  pe_mono (pe_not h1) fun σ H Q ⟨Zo, Z, ρ, Qd, Ed, v, q, l, m⟩ => ⟨Zo, Z, ρ, _, Ed, v, q, fun x H1 d x1 g1 r1 ⟨k, e, q1⟩ => by
    subst e
    exact ⟨k, r1.bool, l _ H1 (.py (.bool _)) x1 g1 (Rq.bl _) q1⟩, m⟩
@[simp] def vIf (c : VB) (ta tb : VT) : VT := fun ρ Q E => c ρ (fun k => if k = true then ta ρ Q E else tb ρ Q E) E
theorem ve_if {c : Expr} {tc : VB} (hc : VTe X b W c tc) (h1 : VE X b W e1 t1) (h2 : VE X b W e2 t2) : VE X b W (.IfExp c e1 e2 pos) (vIf tc t1 t2) :=
  pe_mono (pe_ifExp hc h1 h2) fun σ H Q ⟨Zo, Z, ρ, Qd, Ed, v, q, l, m⟩ => ⟨Zo, Z, ρ, _, Ed, v, q, fun k H1 x1 g1 q1 => by
    cases k with
    | true => exact ⟨Zo, Z, ρ, _, Ed, v.ex x1 g1, q1, fun y H2 d2 x2 g2 r2 q2 => l y H2 d2 (x1.trans x2) g2 r2 q2, fun c z H2 er x2 g2 r2 q2 => m c z H2 er (x1.trans x2) g2 r2 q2⟩
    | false => exact ⟨Zo, Z, ρ, _, Ed, v.ex x1 g1, q1, fun y H2 d2 x2 g2 r2 q2 => l y H2 d2 (x1.trans x2) g2 r2 q2, fun c z H2 er x2 g2 r2 q2 => m c z H2 er (x1.trans x2) g2 r2 q2⟩, m⟩
/-! ### tests -/
@[simp] def wAnd (t u : VB) : VB := fun ρ Q E => t ρ (fun c => if c = true then u ρ Q E else Q false) E
@[simp] def wOr (t u : VB) : VB := fun ρ Q E => t ρ (fun c => if c = true then Q true else u ρ Q E) E
@[simp] def wNot (t : VB) : VB := fun ρ Q E => t ρ (fun c => Q (!c)) E
/-- and, or: whatever their whole is -/
def VWe (X : Cx) (b : Bg) (W : WX) (e : Expr) (t : VB) : Prop := PW X e (LB b W t)
theorem pw_mono {e : Expr} {t t' : TT} (h : PW X e t) (m : ∀ σ H Q, t' σ H Q → t σ H Q) : PW X e t' := ⟨fun w pins s σ H Q I q => h.run w pins s σ H Q I (m σ H Q q)⟩
theorem VWe.pt {t : VB} (h : VWe X b W e t) : VTe X b W e t := PW.pt h
theorem lb_then {k : Bool} {u : VB} {Zo Z : Addr → Prop} {σ : L2.St} {H H1 : Hp} {ρ : VEnv} {Q : Bool → Hp → Prop} {Qd : Bool → Prop} {Ed : Er → Prop} (v : VOk b Zo Z σ H ρ) (l : ∀ k H', Ex b H H' → b.G H' → Qd k → Q k H') (m : ∀ c x H' er, Ex b H H' → b.G H' → ErRp b Z H' c x er → Ed er → W c x σ H')
    (x1 : Ex b H H1) (g1 : b.G H1) (q : u ρ Qd Ed) : LB b W u σ H1 Q :=
  ⟨Zo, Z, ρ, _, Ed, v.ex x1 g1, q, fun k H2 x2 g2 q2 => l k H2 (x1.trans x2) g2 q2, fun c z H2 er x2 g2 r2 q2 => m c z H2 er (x1.trans x2) g2 r2 q2⟩
theorem vw_and1 {t : VB} (h : VTe X b W e t) : VWe X b W (.BoolOp .And [e] pos) t := pw_and1 h
theorem vw_or1 {t : VB} (h : VTe X b W e t) : VWe X b W (.BoolOp .Or [e] pos) t := pw_or1 h
theorem vw_and {t u : VB} (h1 : VTe X b W e1 t) (h2 : VWe X b W (.BoolOp .And (e2 :: es) pos) u) : VWe X b W (.BoolOp .And (e1 :: e2 :: es) pos) (wAnd t u) :=
  pw_mono (pw_and h1 h2) fun σ H Q ⟨Zo, Z, ρ, Qd, Ed, v, q, l, m⟩ => ⟨Zo, Z, ρ, _, Ed, v, q, fun k H1 x1 g1 q1 => by
    cases k with
    | true => exact lb_then (k := true) v l m x1 g1 q1
    | false => exact l false H1 x1 g1 q1, m⟩
theorem vw_or {t u : VB} (h1 : VTe X b W e1 t) (h2 : VWe X b W (.BoolOp .Or (e2 :: es) pos) u) : VWe X b W (.BoolOp .Or (e1 :: e2 :: es) pos) (wOr t u) :=
  pw_mono (pw_or h1 h2) fun σ H Q ⟨Zo, Z, ρ, Qd, Ed, v, q, l, m⟩ => ⟨Zo, Z, ρ, _, Ed, v, q, fun k H1 x1 g1 q1 => by
    cases k with
    | false => exact lb_then (k := true) v l m x1 g1 q1
    | true => exact l true H1 x1 g1 q1, m⟩
theorem vt_not {t : VB} (h1 : VTe X b W e1 t) : VTe X b W (.UnaryOp .Not e1 pos) (wNot t) :=
  pt_mono (pt_not h1) fun σ H Q ⟨Zo, Z, ρ, Qd, Ed, v, q, l, m⟩ => ⟨Zo, Z, ρ, _, Ed, v, q, fun k H1 x1 g1 q1 => l _ H1 x1 g1 q1, m⟩
end
end VL
set_option Elab.async false
set_option linter.all false
set_option maxRecDepth 100000
set_option maxHeartbeats 4000000
namespace VL
open PySem PySem.Spec PyProof.Rows L2
/-- a text by its signs -/
abbrev mkS (l : List Nat) : Str := ⟨l.toArray⟩
abbrev sl (x : Str) : List Nat := x.cps.toList
/-! ### many borrowed values -/
inductive Rbs (b : Bg) (Z : Addr → Prop) (H : Hp) : List V → List D → Prop
  | nil : Rbs b Z H [] []
  | cons {v : V} {d : D} {vs : List V} {ds : List D} : Rb b Z H v d → Rbs b Z H vs ds → Rbs b Z H (v :: vs) (d :: ds)
def LAX (b : Bg) (W : WX) (t : VA) : TA := fun σ H Q => ∃ Zo Z ρ Qd Ed, VOk b Zo Z σ H ρ ∧ t ρ Qd Ed ∧
  (∀ v H' d, Ex b H H' → b.G H' → Rbs b Z H' v d → Qd d → Q v H') ∧ ∀ c x H' er, Ex b H H' → b.G H' → ErRp b Z H' c x er → Ed er → W c x σ H'
def VXs (X : Cx) (b : Bg) (W : WX) (es : List Expr) (t : VA) : Prop := PA X es (LAX b W t)
/-- a rule of a list of values -/
def CalD (b : Bg) (R : (Addr → Prop) → Hp → Hp → V → D → Prop) (r : List V → Hp → VK → Prop) (g : List D → (D → Prop) → Prop) : Prop :=
  ∀ (Z : Addr → Prop) (H : Hp) (x : List V) (dx : List D) (Q : VK) (Qd : D → Prop), Gd b Z H → Rbs b Z H x dx → g dx Qd → (∀ v H' d, Ex b H H' → b.G H' → R Z H H' v d → Qd d → Q v H') → r x H Q
@[simp] def vCal (g : List D → (D → Prop) → Prop) (ta : VA) : VT := fun ρ Q E => ta ρ (fun ds => g ds Q) E
@[simp] def vMet (g : D → List D → (D → Prop) → Prop) (to : VT) (ta : VA) : VT := fun ρ Q E => to ρ (fun d => ta ρ (fun ds => g d ds Q) E) E
section
variable {X : Cx} {b : Bg} {W : WX} {e e1 e2 e3 : Expr} {es : List Expr} {t t1 t2 t3 : VT} {u : VA} {pos p : Pos} {r : List V → Hp → VK → Prop} {g : List D → (D → Prop) → Prop} {x : Str} {id T : String}
theorem vxs_nil : VXs X b W [] vNil := pa_mono pa_nil fun σ H Q ⟨Zo, Z, ρ, Qd, Ed, v, q, l, _⟩ => l [] H [] Ex.refl v.g .nil q
theorem vxs_cons (h : VX X b W e t) (k : VXs X b W es u) (hs : starEach (e :: es) X.env = (false, eval e X.env) :: starEach es X.env := by rfl) : VXs X b W (e :: es) (vCons t u) :=
  pa_mono (pa_cons h k hs) fun σ H Q ⟨Zo, Z, ρ, Qd, Ed, v, q, l, m⟩ => ⟨Zo, Z, ρ, _, Ed, v, q, fun x H1 d x1 g1 r1 q1 =>
    ⟨Zo, Z, ρ, _, Ed, v.ex x1 g1, q1, fun xs H2 ds x2 g2 r2 q2 => l (x :: xs) H2 (d :: ds) (x1.trans x2) g2 (.cons (r1.ex ((v.ex x1 g1).keep x2) x2) r2) q2, fun c y H2 er x2 g2 r2 q2 => m c y H2 er (x1.trans x2) g2 r2 q2⟩, m⟩
theorem coreC {R : (Addr → Prop) → Hp → Hp → V → D → Prop} (hR : ∀ Z H H1 H2 v d, b.G H1 → Ex b H H1 → R Z H1 H2 v d → R Z H H2 v d) (hd : CalD b R r g) : ∀ σ H Q, LE b W R (vCal g u) σ H Q → tCB r (LAX b W u) σ H Q :=
  fun σ H Q ⟨Zo, Z, ρ, Qd, Ed, v, q, l, m⟩ => ⟨Zo, Z, ρ, _, Ed, v, q, fun xs H1 ds x1 g1 r1 q1 => hd Z H1 xs ds Q Qd (v.ex x1 g1).gd r1 q1 fun w H2 d x2 g2 r2 q2 => l w H2 d (x1.trans x2) g2 (hR _ _ _ _ _ _ g1 x1 r2) q2, m⟩
theorem ve_callB (hc : CallR X (.builtin id) r) (hd : CalD b (RE b) r g) (hg : Gl X x) (hm : X.mg x = none) (hv : bootBuiltins x = some (.builtin id)) (ha : VXs X b W (e :: es) u) (hn : x ≠ "__name__" := by decide) (hdb : (x == ("__debug__" : Str)) = false := by decide)
    (he : starEach (e :: es) X.env = (false, eval e X.env) :: starEach es X.env := by rfl) (hpl : (backTo pos (starEach es X.env)).any (·.1) = false := by rfl) : VE X b W (.Call (.Name x p) (e :: es) [] pos) (vCal g u) :=
  pe_mono (pe_callB hc hg hm hv ha hn hdb he hpl) (coreC hRE hd)
theorem vn_callB (hc : CallR X (.builtin id) r) (hd : CalD b (RN b) r g) (hg : Gl X x) (hm : X.mg x = none) (hv : bootBuiltins x = some (.builtin id)) (ha : VXs X b W (e :: es) u) (hn : x ≠ "__name__" := by decide) (hdb : (x == ("__debug__" : Str)) = false := by decide)
    (he : starEach (e :: es) X.env = (false, eval e X.env) :: starEach es X.env := by rfl) (hpl : (backTo pos (starEach es X.env)).any (·.1) = false := by rfl) : VN X b W (.Call (.Name x p) (e :: es) [] pos) (vCal g u) :=
  pe_mono (pe_callB hc hg hm hv ha hn hdb he hpl) (coreC hRN hd)
theorem ve_callTy (hc : CallR X (.type T) r) (hd : CalD b (RE b) r g) (hg : Gl X x) (hm : X.mg x = none) (hv : bootBuiltins x = some (.type T)) (ha : VXs X b W (e :: es) u) (hn : x ≠ "__name__" := by decide) (hdb : (x == ("__debug__" : Str)) = false := by decide)
    (he : starEach (e :: es) X.env = (false, eval e X.env) :: starEach es X.env := by rfl) (hpl : (backTo pos (starEach es X.env)).any (·.1) = false := by rfl) : VE X b W (.Call (.Name x p) (e :: es) [] pos) (vCal g u) :=
  pe_mono (pe_callTy hc hg hm hv ha hn hdb he hpl) (coreC hRE hd)
theorem vn_callTy (hc : CallR X (.type T) r) (hd : CalD b (RN b) r g) (hg : Gl X x) (hm : X.mg x = none) (hv : bootBuiltins x = some (.type T)) (ha : VXs X b W (e :: es) u) (hn : x ≠ "__name__" := by decide) (hdb : (x == ("__debug__" : Str)) = false := by decide)
    (he : starEach (e :: es) X.env = (false, eval e X.env) :: starEach es X.env := by rfl) (hpl : (backTo pos (starEach es X.env)).any (·.1) = false := by rfl) : VN X b W (.Call (.Name x p) (e :: es) [] pos) (vCal g u) :=
  pe_mono (pe_callTy hc hg hm hv ha hn hdb he hpl) (coreC hRN hd)
/-! ### items -/
@[simp] def gIx : D → D → (D → Prop) → Prop
  | .py (.list xs), .py (.int i), Q => ∃ d, atI xs i = some d ∧ Q (.py d)
  | .py (.tuple xs), .py (.int i), Q => ∃ d, atI xs i = some d ∧ Q (.py d)
  | .py (.str z), .py (.int i), Q => z.length ≤ sizeLine ∧ ∃ c, atI z.cps.toList i = some c ∧ Q (.py (.str (mkS [c])))
  | _, _, _ => False
theorem Rqs.atI {Z : Addr → Prop} {H : Hp} {v : List V} {d : List PyData} {i : Int} {x : PyData} (r : Rqs Z H v d) (h : L2.atI d i = some x) : ∃ u, L2.atI v i = some u ∧ Rq Z H u x := by
  unfold L2.atI at h ⊢
  rw [r.length]
  cases e : ixN d.length i with
  | none => rw [e] at h; cases h
  | some j =>
    rw [e] at h
    exact r.get h
theorem rd_ix {K : PySem.W.Frag} : OpD b (RE b) (rIx K) gIx := by
  intro Z H x y dx dy Q Qd gd rx ry h k
  match dx, dy, h, rx, ry with
  | .py (.list xs), .py (.int i), ⟨d, e, h⟩, rx, ry =>
    obtain ⟨a, us, rfl, ha, qa⟩ := rx.list
    obtain ⟨w, e1, r1⟩ := qa.atI e
    exact .inl ⟨a, us, i, w, rfl, ry.int, SqL.of ha, e1, k w H (.py d) Ex.refl gd.g r1 h⟩
  | .py (.tuple xs), .py (.int i), ⟨d, e, h⟩, rx, ry =>
    obtain ⟨a, oa, us, rfl, ha, da, na, qa⟩ := rx.tuple
    obtain ⟨w, e1, r1⟩ := qa.atI e
    exact .inr (.inl ⟨a, us, i, w, rfl, ry.int, SqT.th ha, e1, k w H (.py d) Ex.refl gd.g r1 h⟩)
  | .py (.str z), .py (.int i), ⟨hl, c, e, h⟩, rx, ry =>
    exact .inr (.inr ⟨z, i, c, rx.str, ry.int, hl, e, k _ H (.py (.str (mkS [c]))) Ex.refl gd.g (.str _) h⟩)
theorem ve_ix (h1 : VX X b W e1 t1) (h2 : VX X b W e2 t2) (hs : PlainIx e2 := by exact fun _ _ => rfl) : VE X b W (.Subscript e1 e2 pos) (vBin gIx t1 t2) :=
  pe_mono (pe_ix ix_seq h1 h2 hs) (core2 hRE rd_ix)
/-! ### slices -/
def cutL {α : Type} (xs : List α) (lo hi : Option Int) : List α := (xs.drop (HT.sIx xs.length 0 lo)).take (HT.sIx xs.length xs.length hi - HT.sIx xs.length 0 lo)
theorem Rqs.cut {Z : Addr → Prop} {H : Hp} {v : List V} {d : List PyData} (lo hi : Option Int) (r : Rqs Z H v d) : Rqs Z H (cutV v lo hi) (cutL d lo hi) := by
  unfold cutV cutL
  rw [r.length]
  exact (r.drop _).take _
theorem cutL_whole {α : Type} {xs : List α} {lo hi : Option Int} (h : HT.sIx xs.length 0 lo = 0 ∧ HT.sIx xs.length xs.length hi = xs.length) : cutL xs lo hi = xs := by
  unfold cutL
  rw [h.1, h.2]
  simp
abbrev VO := VEnv → (Option Int → Prop) → (Er → Prop) → Prop
def LO (b : Bg) (W : WX) (t : VO) : TO := fun σ H Q => ∃ Zo Z ρ Qd Ed, VOk b Zo Z σ H ρ ∧ t ρ Qd Ed ∧
  (∀ k H', Ex b H H' → b.G H' → Qd k → Q k H') ∧ ∀ c x H' er, Ex b H H' → b.G H' → ErRp b Z H' c x er → Ed er → W c x σ H'
def VPt (X : Cx) (b : Bg) (W : WX) (e : Option Expr) (t : VO) : Prop := PO X e (LO b W t)
theorem po_mono {e : Option Expr} {t t' : TO} (h : PO X e t) (m : ∀ σ H Q, t' σ H Q → t σ H Q) : PO X e t' := ⟨fun pins s σ H Q I q => h.run pins s σ H Q I (m σ H Q q)⟩
@[simp] def oNo : VO := fun _ Q _ => Q none
@[simp] def oAt (t : VT) : VO := fun ρ Q E => t ρ (fun d => ∃ i, d = .py (.int i) ∧ Q (some i)) E
theorem vo_no : VPt X b W none oNo := po_mono po_none fun σ H Q ⟨Zo, Z, ρ, Qd, Ed, v, q, l, m⟩ => l none H Ex.refl v.g q
theorem vo_at (h : VX X b W e t) : VPt X b W (some e) (oAt t) := po_mono (po_some h) fun σ H Q ⟨Zo, Z, ρ, Qd, Ed, v, q, l, m⟩ => ⟨Zo, Z, ρ, _, Ed, v, q, fun x H1 d x1 g1 r1 ⟨i, e, q1⟩ => by
    subst e
    exact ⟨i, r1.int, l _ H1 x1 g1 q1⟩, m⟩
@[simp] def gSl : D → Option Int → Option Int → (D → Prop) → Prop
  | .py (.list xs), lo, hi, Q => Q (.py (.list (cutL xs lo hi)))
  | .py (.tuple xs), lo, hi, Q => Q (.py (.tuple (cutL xs lo hi)))
  | .py (.str z), lo, hi, Q => z.length ≤ sizeLine ∧ Q (.py (.str (mkS (cutL z.cps.toList lo hi))))
  | _, _, _, _ => False
@[simp] def gSlL : D → Option Int → Option Int → (D → Prop) → Prop
  | .py (.list xs), lo, hi, Q => Q (.py (.list (cutL xs lo hi)))
  | _, _, _, _ => False
@[simp] def vSl (g : D → Option Int → Option Int → (D → Prop) → Prop) (t : VT) (tl th : VO) : VT := fun ρ Q E => t ρ (fun x => tl ρ (fun lo => th ρ (fun hi => g x lo hi Q) E) E) E
def SliD (b : Bg) (R : (Addr → Prop) → Hp → Hp → V → D → Prop) (r : V → Option Int → Option Int → Hp → VK → Prop) (g : D → Option Int → Option Int → (D → Prop) → Prop) : Prop :=
  ∀ (Z : Addr → Prop) (H : Hp) (x : V) (lo hi : Option Int) (dx : D) (Q : VK) (Qd : D → Prop), Gd b Z H → Rb b Z H x dx → g dx lo hi Qd → (∀ v H' d, Ex b H H' → b.G H' → R Z H H' v d → Qd d → Q v H') → r x lo hi H Q
theorem coreS {R : (Addr → Prop) → Hp → Hp → V → D → Prop} {r : V → Option Int → Option Int → Hp → VK → Prop} {g : D → Option Int → Option Int → (D → Prop) → Prop} {tl th : VO} (hR : ∀ Z H H1 H2 v d, b.G H1 → Ex b H H1 → R Z H1 H2 v d → R Z H H2 v d) (hd : SliD b R r g) :
    ∀ σ H Q, LE b W R (vSl g t tl th) σ H Q → tSl r (LE b W (fun Z _ H v d => Rb b Z H v d) t) (LO b W tl) (LO b W th) σ H Q :=
  fun σ H Q ⟨Zo, Z, ρ, Qd, Ed, v, q, l, m⟩ => ⟨Zo, Z, ρ, _, Ed, v, q, fun x H1 d x1 g1 r1 q1 =>
    ⟨Zo, Z, ρ, _, Ed, v.ex x1 g1, q1, fun lo H2 x2 g2 q2 => ⟨Zo, Z, ρ, _, Ed, (v.ex x1 g1).ex x2 g2, q2, fun hi H3 x3 g3 q3 =>
        hd Z H3 x lo hi d Q Qd (((v.ex x1 g1).ex x2 g2).ex x3 g3).gd ((r1.ex ((v.ex x1 g1).keep x2) x2).ex (((v.ex x1 g1).ex x2 g2).keep x3) x3) q3 fun u H4 d4 x4 g4 r4 q4 => l u H4 d4 (((x1.trans x2).trans x3).trans x4) g4 (hR _ _ _ _ _ _ g3 ((x1.trans x2).trans x3) r4) q4,
        fun c z H3 er x3 g3 r3 q3 => m c z H3 er ((x1.trans x2).trans x3) g3 r3 q3⟩,
      fun c z H2 er x2 g2 r2 q2 => m c z H2 er (x1.trans x2) g2 r2 q2⟩, m⟩
theorem rd_slL {K : PySem.W.Frag} : SliD b (RN b) (rSlL K) gSlL := by
  intro Z H x lo hi dx Q Qd gd rx h k
  match dx, h, rx with
  | .py (.list xs), h, rx =>
    obtain ⟨a, us, rfl, ha, qa⟩ := rx.list
    exact ⟨a, us, rfl, SqL.of ha, fun p hp => k _ _ (.py (.list (cutL xs lo hi))) (Ex.new hp) (gd.new hp) ⟨p, rfl, hp, _, upd_same, (qa.cut lo hi).up' hp⟩ h⟩
theorem cutS_eq (z : Str) (lo hi : Option Int) : cutS z lo hi = mkS (cutL z.cps.toList lo hi) := by
  unfold cutS cutL
  first | rfl | simp [Str.length]
theorem rd_sl {K : PySem.W.Frag} : SliD b (RE b) (fun x lo hi H Q => rSlL K x lo hi H Q ∨ (fun x lo hi H Q => rSlF K x lo hi H Q ∨ rSlS x lo hi H Q) x lo hi H Q) gSl := by
  intro Z H x lo hi dx Q Qd gd rx h k
  match dx, h, rx with
  | .py (.list xs), h, rx =>
    refine .inl (rd_slL Z H x lo hi (.py (.list xs)) Q Qd gd rx h fun v H' d x1 g1 ⟨a, e, n, o⟩ q1 => k v H' d x1 g1 ?_ q1)
    subst e
    exact o.rp (fun _ z => .inl z) (gd.fresh n)
  | .py (.tuple xs), h, rx =>
    obtain ⟨a, oa, us, rfl, ha, da, na, qa⟩ := rx.tuple
    refine .inr (.inl ⟨a, us, rfl, SqT.th ha, fun hw => ?_, fun _ p o hp ho => ?_⟩)
    · rw [qa.length] at hw
      have h : Qd (.py (.tuple (cutL xs lo hi))) := h
      rw [cutL_whole hw] at h
      exact k _ H (.py (.tuple xs)) Ex.refl gd.g (.tup ha da na qa) h
    · exact k _ _ (.py (.tuple (cutL xs lo hi))) (Ex.new hp) (gd.new hp) (.tup upd_same ho (gd.fresh hp) ((qa.cut lo hi).up hp)) h
  | .py (.str z), ⟨hl, h⟩, rx =>
    refine .inr (.inr ⟨z, rx.str, hl, ?_⟩)
    rw [cutS_eq]
    exact k _ H (.py (.str _)) Ex.refl gd.g (.str _) h
theorem ve_sl {lo hi : Option Expr} {tl th : VO} {p2 : Pos} (h : VX X b W e t) (h1 : VPt X b W lo tl) (h2 : VPt X b W hi th) : VE X b W (.Subscript e (.Slice lo hi none p2) pos) (vSl gSl t tl th) :=
  pe_mono (pe_slice (sl_list.or (sl_tupF.or sl_str)) h h1 h2) (coreS hRE rd_sl)
end
end VL
set_option Elab.async false
set_option linter.all false
set_option maxRecDepth 100000
set_option maxHeartbeats 4000000
namespace VL
open PySem PySem.Spec PyProof.Rows L2
section
variable {X : Cx} {b : Bg} {W : WX} {e e1 e2 e3 o : Expr} {es : List Expr} {t t1 t2 t3 : VT} {u : VA} {pos p apos cpos : Pos} {x name : Str} {id T : String}
theorem Rbs.one {Z : Addr → Prop} {H : Hp} {v : List V} {d : D} (r : Rbs b Z H v [d]) : ∃ x, v = [x] ∧ Rb b Z H x d := by
  cases r with
  | cons r t => cases t; exact ⟨_, rfl, r⟩
theorem Rbs.two {Z : Addr → Prop} {H : Hp} {v : List V} {d d2 : D} (r : Rbs b Z H v [d, d2]) : ∃ x y, v = [x, y] ∧ Rb b Z H x d ∧ Rb b Z H y d2 := by
  cases r with
  | cons r t =>
    cases t with
    | cons r2 t => cases t; exact ⟨_, _, rfl, r, r2⟩
/-! ### built-in functions -/
@[simp] def gLen : List D → (D → Prop) → Prop
  | [.py (.list xs)], Q => Q (.py (.int xs.length))
  | [.py (.tuple xs)], Q => Q (.py (.int xs.length))
  | [.py (.str z)], Q => z.length ≤ sizeLine ∧ Q (.py (.int z.length))
  | [.py (.dict xs)], Q => Q (.py (.int xs.length))
  | _, _ => False
def rLen (K : PySem.W.Frag) : List V → Hp → VK → Prop := fun xs H Q => (fun xs H Q => ∃ x n, xs = [x] ∧ LenV K x H n ∧ Q (.int n) H) xs H Q ∨ (fun xs H Q => ∃ a kvs, xs = [V.ref a] ∧ H a = some (.dK kvs) ∧ Q (.int kvs.length) H) xs H Q
theorem rd_len : CalD b (RE b) (rLen X.K) gLen := by
  intro Z H vs ds Q Qd gd rx h k
  match ds, h, rx with
  | [.py (.list xs)], h, rx =>
    obtain ⟨x, rfl, r⟩ := rx.one
    obtain ⟨a, us, rfl, ha, qa⟩ := r.list
    exact .inl ⟨_, us.length, rfl, .inl ⟨us, SqL.of ha, rfl⟩, k _ H (.py (.int us.length)) Ex.refl gd.g (.int _) (by rw [qa.length]; exact h)⟩
  | [.py (.tuple xs)], h, rx =>
    obtain ⟨x, rfl, r⟩ := rx.one
    obtain ⟨a, oa, us, rfl, ha, da, na, qa⟩ := r.tuple
    exact .inl ⟨_, us.length, rfl, .inr ⟨us, SqT.th ha, rfl⟩, k _ H (.py (.int us.length)) Ex.refl gd.g (.int _) (by rw [qa.length]; exact h)⟩
  | [.py (.str z)], ⟨hl, h⟩, rx =>
    obtain ⟨x, rfl, r⟩ := rx.one
    exact .inl ⟨_, z.length, rfl, (by rw [r.str]; exact ⟨hl, rfl⟩), k _ H (.py (.int z.length)) Ex.refl gd.g (.int _) h⟩
  | [.py (.dict xs)], h, rx =>
    obtain ⟨x, rfl, r⟩ := rx.one
    obtain ⟨a, us, rfl, ha, qa⟩ := r.dict
    exact .inr ⟨a, us, rfl, ha, k _ H (.py (.int us.length)) Ex.refl gd.g (.int _) (by rw [qa.length]; exact h)⟩
theorem ve_len (hg : Gl X "len") (hm : X.mg "len" = none) (ha : VXs X b W [e] u) (he : starEach [e] X.env = (false, eval e X.env) :: starEach [] X.env := by rfl) (hpl : (backTo pos (starEach [] X.env)).any (·.1) = false := by rfl) :
    VE X b W (.Call (.Name "len" p) [e] [] pos) (vCal gLen u) := ve_callB (CallR.or call_len call_lenD) rd_len hg hm PySem.boot_len ha (by decide) (by decide) he hpl
@[simp] def gAbs : List D → (D → Prop) → Prop
  | [.py (.int i)], Q => Q (.py (.int (if i < 0 then -i else i)))
  | _, _ => False
@[simp] def gInt : List D → (D → Prop) → Prop
  | [.py (.int i)], Q => Q (.py (.int i))
  | [.py (.bool k)], Q => Q (.py (.int (if k then 1 else 0)))
  | [.py (.str z)], Q => ∃ n, intText? z = some n ∧ z.length ≤ 640 ∧ Q (.py (.int n))
  | _, _ => False
theorem rd_int : CalD b (RE b) (fun xs H Q => (fun xs H Q => (∃ i, xs = [.int i] ∧ Q (.int i) H) ∨ ∃ k, xs = [.bl k] ∧ Q (.int (if k then 1 else 0)) H) xs H Q ∨ (fun xs H Q => ∃ a n, xs = [.str a] ∧ PySem.intText? a = some n ∧ a.length ≤ 640 ∧ Q (.int n) H) xs H Q) gInt := by
  intro Z H vs ds Q Qd gd rx h k
  match ds, h, rx with
  | [.py (.int i)], h, rx =>
    obtain ⟨x, rfl, r⟩ := rx.one
    exact .inl (.inl ⟨i, by rw [r.int], k _ H (.py (.int i)) Ex.refl gd.g (.int i) h⟩)
  | [.py (.bool i)], h, rx =>
    obtain ⟨x, rfl, r⟩ := rx.one
    exact .inl (.inr ⟨i, by rw [r.bool], k _ H (.py (.int _)) Ex.refl gd.g (.int _) h⟩)
  | [.py (.str z)], ⟨n, h1, h2, h⟩, rx =>
    obtain ⟨x, rfl, r⟩ := rx.one
    exact .inr ⟨z, n, by rw [r.str], h1, h2, k _ H (.py (.int n)) Ex.refl gd.g (.int n) h⟩
@[simp] def gStr : List D → (D → Prop) → Prop
  | [.py (.int i)], Q => i.natAbs.log2 < 1920 ∧ Q (.py (.str (toString i)))
  | [.py (.str z)], Q => Q (.py (.str z))
  | _, _ => False
@[simp] def gBool : List D → (D → Prop) → Prop
  | [.py (.int i)], Q => Q (.py (.bool (i != 0)))
  | [.py (.bool k)], Q => Q (.py (.bool k))
  | _, _ => False
@[simp] def gTuple : List D → (D → Prop) → Prop
  | [.py (.list xs)], Q => Q (.py (.tuple xs))
  | [.py (.tuple xs)], Q => Q (.py (.tuple xs))
  | _, _ => False
theorem rd_tuple {K : PySem.W.Frag} : CalD b (RE b) (rTupOf K) gTuple := by
  intro Z H vs ds Q Qd gd rx h k
  match ds, h, rx with
  | [.py (.list xs)], h, rx =>
    obtain ⟨x, rfl, r⟩ := rx.one
    obtain ⟨a, us, rfl, ha, qa⟩ := r.list
    exact ⟨a, us, rfl, .inl ⟨SqL.of ha, fun p o hp ho => k _ _ (.py (.tuple xs)) (Ex.new hp) (gd.new hp) (.tup upd_same ho (gd.fresh hp) (qa.up hp)) h⟩⟩
  | [.py (.tuple xs)], h, rx =>
    obtain ⟨x, rfl, r⟩ := rx.one
    obtain ⟨a, oa, us, rfl, ha, da, na, qa⟩ := r.tuple
    exact ⟨a, us, rfl, .inr ⟨SqT.th ha, k _ H (.py (.tuple xs)) Ex.refl gd.g (.tup ha da na qa) h⟩⟩
@[simp] def gList : List D → (D → Prop) → Prop
  | [.py (.list xs)], Q => Q (.py (.list xs))
  | [.py (.tuple xs)], Q => Q (.py (.list xs))
  | _, _ => False
theorem rd_list {K : PySem.W.Frag} : CalD b (RN b) (fun xs H Q => ∃ p ys, xs = [.ref p] ∧ (SqL K H p ys ∨ SqT K H p ys) ∧ ∀ l, H l = none → Q (.ref l) (upd H l (.lst ys))) gList := by
  intro Z H vs ds Q Qd gd rx h k
  match ds, h, rx with
  | [.py (.list xs)], h, rx =>
    obtain ⟨x, rfl, r⟩ := rx.one
    obtain ⟨a, us, rfl, ha, qa⟩ := r.list
    exact ⟨a, us, rfl, .inl (SqL.of ha), fun p hp => k _ _ (.py (.list xs)) (Ex.new hp) (gd.new hp) ⟨p, rfl, hp, us, upd_same, qa.up' hp⟩ h⟩
  | [.py (.tuple xs)], h, rx =>
    obtain ⟨x, rfl, r⟩ := rx.one
    obtain ⟨a, oa, us, rfl, ha, da, na, qa⟩ := r.tuple
    exact ⟨a, us, rfl, .inr (SqT.th ha), fun p hp => k _ _ (.py (.list xs)) (Ex.new hp) (gd.new hp) ⟨p, rfl, hp, us, upd_same, qa.up' hp⟩ h⟩
def allB : List PyData → Option (List Bool)
  | [] => some []
  | .bool k :: r => (allB r).map (k :: ·)
  | _ :: _ => none
def allI : List PyData → Option (List Int)
  | [] => some []
  | .int k :: r => (allI r).map (k :: ·)
  | _ :: _ => none
def allS : List PyData → Option (List Str)
  | [] => some []
  | .str k :: r => (allS r).map (k :: ·)
  | _ :: _ => none
theorem allI_map (l : List Int) : allI (l.map PyData.int) = some l := by
  induction l with
  | nil => rfl
  | cons a l ih => simp [allI, ih]
theorem allI_of : ∀ {l : List PyData} {bs : List Int}, allI l = some bs → l = bs.map PyData.int
  | [], _, h => by cases h; rfl
  | .int k :: r, bs, h => by
    cases e : allI r with
    | none => rw [allI, e] at h; cases h
    | some q => rw [allI, e] at h; cases h; rw [List.map_cons, ← allI_of e]
  | .none :: _, _, h | .bool _ :: _, _, h | .str _ :: _, _, h | .list _ :: _, _, h | .tuple _ :: _, _, h | .dict _ :: _, _, h => by cases h
@[simp] def gSum : List D → (D → Prop) → Prop
  | [.py (.list xs)], Q => ∃ ns, allI xs = some ns ∧ Q (.py (.int ns.sum))
  | _, _ => False
theorem rd_sum {K : PySem.W.Frag} : CalD b (RE b) (rSum K) gSum := by
  intro Z H vs ds Q Qd gd rx h k
  match ds, h, rx with
  | [.py (.list xs)], ⟨ns, e, h⟩, rx =>
    obtain ⟨x, rfl, r⟩ := rx.one
    obtain ⟨a, us, rfl, ha, qa⟩ := r.list
    rw [allI_of e] at qa
    rw [qa.ints] at ha
    exact ⟨a, ns, rfl, SqL.of ha, k _ H (.py (.int _)) Ex.refl gd.g (.int _) h⟩
@[simp] def gAll : List D → (D → Prop) → Prop
  | [.py (.list xs)], Q => ∃ ns, allB xs = some ns ∧ Q (.py (.bool (ns.all fun k => k)))
  | _, _ => False
@[simp] def gAny : List D → (D → Prop) → Prop
  | [.py (.list xs)], Q => ∃ ns, allB xs = some ns ∧ Q (.py (.bool (ns.any fun k => k)))
  | _, _ => False
/-- the greatest, the least -/
def maxL : List Int → Int
  | [] => 0
  | [a] => a
  | a :: r => max a (maxL r)
def minL : List Int → Int
  | [] => 0
  | [a] => a
  | a :: r => min a (minL r)
theorem maxL_spec : ∀ (l : List Int), l ≠ [] → maxL l ∈ l ∧ ∀ y, y ∈ l → y ≤ maxL l
  | [], h => absurd rfl h
  | [a], _ => by simp [maxL]
  | a :: c :: r, _ => by
    obtain ⟨h1, h2⟩ := maxL_spec (c :: r) (by simp)
    show max a (maxL (c :: r)) ∈ _ ∧ ∀ y, y ∈ _ → y ≤ max a (maxL (c :: r))
    refine ⟨?_, fun y hy => ?_⟩
    · rcases Int.le_total a (maxL (c :: r)) with h | h
      · rw [Int.max_eq_right h]; exact List.mem_cons_of_mem _ h1
      · rw [Int.max_eq_left h]; exact List.mem_cons_self
    · rcases List.mem_cons.mp hy with rfl | hy
      · exact Int.le_max_left _ _
      · exact Int.le_trans (h2 y hy) (Int.le_max_right _ _)
@[simp] def gMax : List D → (D → Prop) → Prop
  | [.py (.list xs)], Q => ∃ ns, allI xs = some ns ∧ ns ≠ [] ∧ Q (.py (.int (maxL ns)))
  | [.py (.int i), .py (.int j)], Q => Q (.py (.int (max i j)))
  | _, _ => False
@[simp] def gMin : List D → (D → Prop) → Prop
  | [.py (.list xs)], Q => ∃ ns, allI xs = some ns ∧ ns ≠ [] ∧ Q (.py (.int (minL ns)))
  | [.py (.int i), .py (.int j)], Q => Q (.py (.int (min i j)))
  | _, _ => False
theorem rd_max {K : PySem.W.Frag} : CalD b (RE b) (fun xs H Q => (fun xs H Q => ∃ i j, xs = [.int i, .int j] ∧ Q (.int (if j > i then j else i)) H) xs H Q ∨ rMax K xs H Q) gMax := by
  intro Z H vs ds Q Qd gd rx h k
  match ds, h, rx with
  | [.py (.list xs)], ⟨ns, e, hne, h⟩, rx =>
    obtain ⟨x, rfl, r⟩ := rx.one
    obtain ⟨a, us, rfl, ha, qa⟩ := r.list
    rw [allI_of e] at qa
    rw [qa.ints] at ha
    refine .inr ⟨a, ns, rfl, SqL.of ha, List.length_pos_iff.mpr hne, fun m hm hl => ?_⟩
    obtain ⟨h1, h2⟩ := maxL_spec ns hne
    have e : m = maxL ns := Int.le_antisymm (h2 m hm) (hl _ h1)
    rw [e]
    exact k _ H (.py (.int _)) Ex.refl gd.g (.int _) h
  | [.py (.int i), .py (.int j)], h, rx =>
    obtain ⟨x, y, rfl, r1, r2⟩ := rx.two
    refine .inl ⟨i, j, by rw [r1.int, r2.int], ?_⟩
    have e : (if j > i then j else i) = max i j := by split <;> omega
    rw [e]
    exact k _ H (.py (.int _)) Ex.refl gd.g (.int _) h
/-! ### isinstance of built-in kinds -/
/-- is data of that built-in class? -/
@[simp] def dInt : PyData → Bool
  | .int _ => true | .bool _ => true | _ => false
@[simp] def dBool : PyData → Bool
  | .bool _ => true | _ => false
@[simp] def dStr : PyData → Bool
  | .str _ => true | _ => false
@[simp] def dTuple : PyData → Bool
  | .tuple _ => true | _ => false
@[simp] def dList : PyData → Bool
  | .list _ => true | _ => false
def isK (T : String) (d : PyData) : Option Bool := if T = "int" then some (dInt d) else if T = "bool" then some (dBool d) else if T = "str" then some (dStr d) else if T = "tuple" then some (dTuple d) else if T = "list" then some (dList d) else none
@[simp] theorem isK_int (d : PyData) : isK "int" d = some (dInt d) := rfl
@[simp] theorem isK_bool (d : PyData) : isK "bool" d = some (dBool d) := rfl
@[simp] theorem isK_str (d : PyData) : isK "str" d = some (dStr d) := rfl
@[simp] theorem isK_tuple (d : PyData) : isK "tuple" d = some (dTuple d) := rfl
@[simp] theorem isK_list (d : PyData) : isK "list" d = some (dList d) := rfl
def tyName : PyData → String
  | .none => "NoneType" | .bool _ => "bool" | .int _ => "int" | .str _ => "str" | .list _ => "list" | .tuple _ => "tuple" | .dict _ => "dict"
theorem isi_int (d : PyData) : kitB (tyName d) "int" = some (dInt d) := by cases d <;> (simp only [tyName, dInt]; decide +kernel)
theorem isi_bool (d : PyData) : kitB (tyName d) "bool" = some (dBool d) := by cases d <;> (simp only [tyName, dBool]; decide +kernel)
theorem isi_str (d : PyData) : kitB (tyName d) "str" = some (dStr d) := by cases d <;> (simp only [tyName, dStr]; decide +kernel)
theorem isi_tuple (d : PyData) : kitB (tyName d) "tuple" = some (dTuple d) := by cases d <;> (simp only [tyName, dTuple]; decide +kernel)
theorem isi_list (d : PyData) : kitB (tyName d) "list" = some (dList d) := by cases d <;> (simp only [tyName, dList]; decide +kernel)
theorem isi_of {T : String} {d : PyData} {c : Bool} (h : isK T d = some c) : kitB (tyName d) T = some c := by
  unfold isK at h
  split at h
  · subst T; rw [isi_int]; exact h
  split at h
  · subst T; rw [isi_bool]; exact h
  split at h
  · subst T; rw [isi_str]; exact h
  split at h
  · subst T; rw [isi_tuple]; exact h
  split at h
  · subst T; rw [isi_list]; exact h
  · cases h
theorem tyx_of {K : PySem.W.Frag} {Z : Addr → Prop} {H : Hp} {v : V} {d : PyData} (r : Rq Z H v d) : TyX K H v (.type (tyName d)) := by
  cases r with
  | non => exact .base .non
  | bl k => exact .base (.bl k)
  | int i => exact .base (.int i)
  | str x => exact .base (.str x)
  | lst e n q => exact .base (.lst e)
  | tup e h n q => exact .fTuple e
  | dct e n q => exact .base (.dK e)
@[simp] def gIsi : List D → (D → Prop) → Prop
  | [.py d, .raw (.ty T)], Q => ∃ k, isK T d = some k ∧ Q (.py (.bool k))
  | _, _ => False
theorem rd_isi {K : PySem.W.Frag} : CalD b (RE b) (rIsi K) gIsi := by
  intro Z H vs ds Q Qd gd rx h k
  match ds, h, rx with
  | [.py d, .raw (.ty T)], ⟨c, e, h⟩, rx =>
    obtain ⟨x, y, rfl, r1, r2⟩ := rx.two
    have ey : y = .ty T := by
      rcases r2 with r | ⟨a, e, _, _, q⟩
      · exact r
      · exact q.elim
    subst ey
    exact ⟨x, .ty T, _, .type T, c, rfl, .ty T, tyx_of r1.q, kit_ty (isi_of e), k _ H (.py (.bool c)) Ex.refl gd.g (.bl c) h⟩
/-- the built-in class as a value -/
theorem ve_ty {T : String} {x : Str} (hg : Gl X x) (hm : X.mg x = none) (hv : bootBuiltins x = some (.type T)) (hn : x ≠ "__name__" := by decide) (hd : (x == ("__debug__" : Str)) = false := by decide) : VE X b W (.Name x pos) (vC (.raw (.ty T))) :=
  ve_raw (pe_bltn hg hm hv rfl hn hd)
end
end VL
set_option Elab.async false
set_option linter.all false
set_option maxRecDepth 100000
set_option maxHeartbeats 4000000
namespace VL
open PySem PySem.Spec PyProof.Rows L2
/-- VOk in a running def: H0 the heap at its entry (or a loop's), M what may have been written since -/
structure FOk (b : Bg) (H0 : Hp) (M Zo Z : Addr → Prop) (σ : L2.St) (H : Hp) (ρ : VEnv) : Prop where
  v : VOk b Zo Z σ H ρ
  ext : ∀ a o, H0 a = some o → ¬ b.B a → ¬ M a → H a = some o
  fr : ∀ (i : Nat) (d : D) (a : Addr), ρ[i]? = some (.own d) → σ[i]? = some (some (.ref a)) → M a ∨ H0 a = none
/-- what a def may give back: a value, a new object that nobody else holds, a new list that begins with such an object -/
inductive Rt where
  | val (d : D)
  | nw (d : D)
  | nwL (d : D) (ds : List D)
def RtOk (b : Bg) (H0 : Hp) (M Zo Z : Addr → Prop) (H : Hp) (v : V) : Rt → Prop
  | .val d => Rp b Z H v d
  | .nw d => ∃ x, v = .ref x ∧ (M x ∨ H0 x = none) ∧ ¬ Zo x ∧ Ow b (fun c => Zo c ∨ c = x) H x d
  | .nwL d ds => ∃ l x ws, v = .ref l ∧ H l = some (.lst (.ref x :: ws)) ∧ (M l ∨ H0 l = none) ∧ ¬ Zo l ∧ l ≠ x ∧ (M x ∨ H0 x = none) ∧ ¬ Zo x ∧ Ow b (fun c => (Zo c ∨ c = x) ∨ c = l) H x d ∧ Rps b (fun c => (Zo c ∨ c = x) ∨ c = l) H ws ds
structure VEnds where
  nx : VEnv → Prop
  rt : D → Prop
  bk : VEnv → Prop
  ct : VEnv → Prop
  ex : VEnv → Er → Prop
  ro : VEnv → Rt → Prop := fun _ _ => False
abbrev VS := VEnv → VEnds → Prop
/-- what the ends of a reading mean over the heap -/
structure Lk (b : Bg) (W : WX) (H0 : Hp) (M Zo : Addr → Prop) (De : VEnds) (D : Ends) : Prop where
  nx : ∀ Z σ H ρ, FOk b H0 M Zo Z σ H ρ → De.nx ρ → D.nx σ H
  rt : ∀ v H d, (∀ a o, H0 a = some o → ¬ b.B a → ¬ M a → H a = some o) → b.G H → Rp b Zo H v d → De.rt d → D.rt v H
  bk : ∀ Z σ H ρ, FOk b H0 M Zo Z σ H ρ → De.bk ρ → D.bk σ H
  ct : ∀ Z σ H ρ, FOk b H0 M Zo Z σ H ρ → De.ct ρ → D.ct σ H
  ex : ∀ c x Z σ H ρ er, FOk b H0 M Zo Z σ H ρ → ErRp b Z H c x er → De.ex ρ er → W c x σ H
  ro : ∀ v Z σ H ρ r, FOk b H0 M Zo Z σ H ρ → RtOk b H0 M Zo Z H v r → De.ro ρ r → D.rt v H
def LS (b : Bg) (W : WX) (t : VS) : TS := fun D σ H => ∃ H0 M Zo Z ρ De, FOk b H0 M Zo Z σ H ρ ∧ t ρ De ∧ Lk b W H0 M Zo De D
def VSt (X : Cx) (b : Bg) (W : WX) (st : Stmt) (t : VS) : Prop := PS X st (LS b W t)
def VSs (X : Cx) (b : Bg) (W : WX) (st : List Stmt) (t : VS) : Prop := PSs X st (LS b W t)
section
variable {b : Bg} {W : WX} {H0 : Hp} {M Zo Z : Addr → Prop} {σ : L2.St} {H H' : Hp} {ρ : VEnv} {De : VEnds} {Dn : Ends}
theorem FOk.ex (f : FOk b H0 M Zo Z σ H ρ) (x : Ex b H H') (g : b.G H') : FOk b H0 M Zo Z σ H' ρ := ⟨f.v.ex x g, fun a o e nb nm => x a o (f.ext a o e nb nm) nb, f.fr⟩
/-- the error link of an expression -/
theorem Lk.er (l : Lk b W H0 M Zo De Dn) (f : FOk b H0 M Zo Z σ H ρ) : ∀ c x H' er, Ex b H H' → b.G H' → ErRp b Z H' c x er → De.ex ρ er → W c x σ H' := fun c x H' er x1 g1 r q => l.ex c x Z σ H' ρ er (f.ex x1 g1) r q
/-- the owned addresses but slot i's -/
def zBut (Zo : Addr → Prop) (σ : L2.St) (ρ : VEnv) (i : Nat) : Addr → Prop := fun a => Zo a ∨ ∃ (j : Nat) (e : D), j ≠ i ∧ ρ[j]? = some (.own e) ∧ σ[j]? = some (some (.ref a))
theorem VOk.but (v : VOk b Zo Z σ H ρ) (i : Nat) : ∀ a, zBut Zo σ ρ i a → Z a := fun a z => by
  rcases z with z | ⟨j, e, _, h1, h2⟩
  · exact v.zo a z
  · obtain ⟨c, h3, h4, _⟩ := v.own j e h1
    rw [h2] at h3; cases h3; exact h4
theorem FOk.set (f : FOk b H0 M Zo Z σ H ρ) {i : Nat} {u : V} {d : D} (hi : i < ρ.length) (r : Rp b Z H u d) : FOk b H0 M Zo (zBut Zo σ ρ i) (σ.set i (some u)) H (ρ.set i (.shr d)) := by
  have v := f.v
  have sub := v.but i
  have hiσ : i < σ.length := by rw [← v.len]; exact hi
  have ow : ∀ {j : Nat} {e : D}, (ρ.set i (.shr d))[j]? = some (.own e) → j ≠ i ∧ ρ[j]? = some (.own e) := fun {j e} h => by
    by_cases hj : j = i
    · subst hj
      rw [List.getElem?_set_self hi] at h; cases h
    · rw [List.getElem?_set_ne (Ne.symm hj)] at h
      exact ⟨hj, h⟩
  refine ⟨⟨v.g, v.zb, fun a z => .inl z, fun a z => v.dom a (sub a z), fun a z => ?_, fun j e h => ?_, fun j k e e2 a h1 h2 h3 h4 => ?_, fun j e h => ?_, by simpa using v.len⟩, f.ext, fun j e a h1 h2 => ?_⟩
  · rcases z with z | ⟨j, e, hj, h1, h2⟩
    · exact .inl z
    · exact .inr ⟨j, e, by rw [List.getElem?_set_ne (Ne.symm hj)]; exact h1, by rw [List.getElem?_set_ne (Ne.symm hj)]; exact h2⟩
  · obtain ⟨hj, h⟩ := ow h
    obtain ⟨a, h1, h2, h3, h4⟩ := v.own j e h
    exact ⟨a, by rw [List.getElem?_set_ne (Ne.symm hj)]; exact h1, .inr ⟨j, e, hj, h, h1⟩, h3, h4.mono (fun c z => .inl (sub c z)) (fun _ _ e _ => e) fun _ e => e⟩
  · obtain ⟨hj, h1⟩ := ow h1
    obtain ⟨hk, h2⟩ := ow h2
    rw [List.getElem?_set_ne (Ne.symm hj)] at h3
    rw [List.getElem?_set_ne (Ne.symm hk)] at h4
    exact v.inj j k e e2 a h1 h2 h3 h4
  · by_cases hj : j = i
    · subst hj
      rw [List.getElem?_set_self hi] at h; cases h
      exact ⟨u, List.getElem?_set_self hiσ, r.mono (fun c z => .inl (sub c z)) fun _ _ e _ => e⟩
    · rw [List.getElem?_set_ne (Ne.symm hj)] at h
      obtain ⟨w, h1, h2⟩ := v.shr j e h
      exact ⟨w, by rw [List.getElem?_set_ne (Ne.symm hj)]; exact h1, h2.mono (fun c z => .inl (sub c z)) fun _ _ e _ => e⟩
  · obtain ⟨hj, h1⟩ := ow h1
    rw [List.getElem?_set_ne (Ne.symm hj)] at h2
    exact f.fr j e a h1 h2
/-- a new object given to slot i -/
theorem FOk.setN (f : FOk b H0 M Zo Z σ H ρ) {i : Nat} {u : V} {d : D} (hi : i < ρ.length) (x : Ex b H H') (g : b.G H') (r : Rn b Z H H' u d) : ∃ Z', FOk b H0 M Zo Z' (σ.set i (some u)) H' (ρ.set i (.own d)) := by
  obtain ⟨a, rfl, hn, o⟩ := r
  have v := f.v
  have v' := v.ex x g
  have sub := v.but i
  have nz : ¬ Z a := v.fresh hn
  have hiσ : i < σ.length := by rw [← v.len]; exact hi
  have hz : ∀ c, (zBut Zo σ ρ i c ∨ c = a) → Z c ∨ H c = none := fun c z => z.elim (fun z => .inl (sub c z)) fun e => .inr (by rw [e]; exact hn)
  have ow : ∀ {j : Nat} {e : D}, (ρ.set i (.own d))[j]? = some (.own e) → (j = i ∧ e = d) ∨ (j ≠ i ∧ ρ[j]? = some (.own e)) := fun {j e} h => by
    by_cases hj : j = i
    · subst hj
      rw [List.getElem?_set_self hi] at h; cases h; exact .inl ⟨rfl, rfl⟩
    · rw [List.getElem?_set_ne (Ne.symm hj)] at h
      exact .inr ⟨hj, h⟩
  have na : ∀ (j : Nat) (e : D) (c : Addr), ρ[j]? = some (.own e) → σ[j]? = some (some (.ref c)) → c ≠ a := fun j e c h1 h2 q => by
    obtain ⟨c', h3, h4, _⟩ := v.own j e h1
    rw [h2] at h3; cases h3; rw [q] at h4; exact nz h4
  refine ⟨fun c => zBut Zo σ ρ i c ∨ c = a, ⟨g, v.zb, fun c z => .inl (.inl z), fun c z => ?_, fun c z => ?_, fun j e h => ?_, fun j k e e2 c h1 h2 h3 h4 => ?_, fun j e h => ?_, by simpa using v.len⟩, fun c o e nb nm => x c o (f.ext c o e nb nm) nb, fun j e c h1 h2 => ?_⟩
  · rcases z with z | rfl
    · exact v'.dom c (sub c z)
    · obtain ⟨o', e⟩ := o.at
      rw [e]; simp
  · rcases z with (z | ⟨j, e, hj, h1, h2⟩) | rfl
    · exact .inl z
    · exact .inr ⟨j, e, by rw [List.getElem?_set_ne (Ne.symm hj)]; exact h1, by rw [List.getElem?_set_ne (Ne.symm hj)]; exact h2⟩
    · exact .inr ⟨i, d, List.getElem?_set_self hi, List.getElem?_set_self hiσ⟩
  · rcases ow h with ⟨rfl, rfl⟩ | ⟨hj, h⟩
    · exact ⟨a, List.getElem?_set_self hiσ, .inr rfl, fun z => nz (v.zo _ z), o.mono (fun c z => .inl (z.imp (sub c) id)) (fun _ _ e _ => e) fun _ e => e⟩
    · obtain ⟨c, h1, h2, h3, h4⟩ := v.own j e h
      exact ⟨c, by rw [List.getElem?_set_ne (Ne.symm hj)]; exact h1, .inl (.inr ⟨j, e, hj, h, h1⟩), h3, h4.mono hz (v.keep x) fun o q => x c o q fun z => h3 (v.zb c z)⟩
  · rcases ow h1 with ⟨q1, _⟩ | ⟨hj, p1⟩
    · rcases ow h2 with ⟨q2, _⟩ | ⟨hk, p2⟩
      · rw [q1, q2]
      · rw [q1, List.getElem?_set_self hiσ] at h3; cases h3
        rw [List.getElem?_set_ne (Ne.symm hk)] at h4
        exact absurd rfl (na k e2 _ p2 h4)
    · rw [List.getElem?_set_ne (Ne.symm hj)] at h3
      rcases ow h2 with ⟨q2, _⟩ | ⟨hk, p2⟩
      · rw [q2, List.getElem?_set_self hiσ] at h4; cases h4
        exact absurd rfl (na j e _ p1 h3)
      · rw [List.getElem?_set_ne (Ne.symm hk)] at h4
        exact v.inj j k e e2 c p1 p2 h3 h4
  · by_cases hj : j = i
    · subst hj
      rw [List.getElem?_set_self hi] at h; cases h
    · rw [List.getElem?_set_ne (Ne.symm hj)] at h
      obtain ⟨w, h1, h2⟩ := v.shr j e h
      exact ⟨w, by rw [List.getElem?_set_ne (Ne.symm hj)]; exact h1, h2.mono hz (v.keep x)⟩
  · rcases ow h1 with ⟨rfl, rfl⟩ | ⟨hj, h1⟩
    · rw [List.getElem?_set_self hiσ] at h2; cases h2
      cases q : H0 a with
      | none => exact .inr rfl
      | some u0 =>
        by_cases hb : b.B a
        · exact absurd hn (b.dom _ _ v.g hb)
        · by_cases hm : M a
          · exact .inl hm
          · have := f.ext a u0 q hb hm
            rw [hn] at this; cases this
    · rw [List.getElem?_set_ne (Ne.symm hj)] at h2
      exact f.fr j e c h1 h2
/-- slot i's object is changed -/
theorem FOk.mut (f : FOk b H0 M Zo Z σ H ρ) {i : Nat} {a : Addr} {d d' : D} {o : HO} (hr : ρ[i]? = some (.own d)) (hs : σ[i]? = some (some (.ref a))) (new : Ow b Z (upd H a o) a d') : FOk b H0 M Zo Z σ (upd H a o) (ρ.set i (.own d')) := by
  have v := f.v
  obtain ⟨c, h1, hz, hzo, how⟩ := v.own i d hr
  rw [hs] at h1; cases h1
  have hi : i < ρ.length := (List.getElem?_eq_some_iff.mp hr).1
  have nb : ¬ b.B a := fun z => hzo (v.zb a z)
  have keep : ∀ c o', H c = some o' → ¬ Z c → upd H a o c = some o' := fun c o' e n => by
    rw [upd_ne (fun q => n (by rw [q]; exact hz))]
    exact e
  have ow : ∀ {j : Nat} {e : D}, (ρ.set i (.own d'))[j]? = some (.own e) → (j = i ∧ e = d') ∨ (j ≠ i ∧ ρ[j]? = some (.own e)) := fun {j e} h => by
    by_cases hj : j = i
    · subst hj
      rw [List.getElem?_set_self hi] at h; cases h; exact .inl ⟨rfl, rfl⟩
    · rw [List.getElem?_set_ne (Ne.symm hj)] at h
      exact .inr ⟨hj, h⟩
  have old : ∀ {j : Nat} {e : D}, (ρ.set i (.own d'))[j]? = some (.own e) → ∃ e', ρ[j]? = some (.own e') := fun {j e} h => by
    rcases ow h with ⟨rfl, rfl⟩ | ⟨_, h⟩
    · exact ⟨d, hr⟩
    · exact ⟨e, h⟩
  refine ⟨⟨b.loc H _ (fun c hc => upd_ne fun q => nb (by rw [← q]; exact hc)) (fun c o ho e => by rw [upd_ne (fun q => how.noext o ho (by rw [← q]; exact e))]; exact e) v.g, v.zb, v.zo, fun c z => ?_, fun c z => ?_, fun j e h => ?_, fun j k e e2 c h1 h2 h3 h4 => ?_, fun j e h => ?_, by simpa using v.len⟩, fun c o' e nb' nm => ?_, fun j e c h1 h2 => ?_⟩
  · by_cases q : c = a
    · rw [q, upd_same]; simp
    · rw [upd_ne q]; exact v.dom c z
  · rcases v.zi c z with z | ⟨j, e, h1, h2⟩
    · exact .inl z
    · by_cases hj : j = i
      · subst hj
        exact .inr ⟨j, d', List.getElem?_set_self hi, h2⟩
      · exact .inr ⟨j, e, by rw [List.getElem?_set_ne (Ne.symm hj)]; exact h1, h2⟩
  · rcases ow h with ⟨rfl, rfl⟩ | ⟨hj, h⟩
    · exact ⟨a, hs, hz, hzo, new⟩
    · obtain ⟨c, h1, h2, h3, h4⟩ := v.own j e h
      have hca : c ≠ a := fun q => hj (v.inj j i e d a h hr (by rw [← q]; exact h1) hs)
      exact ⟨c, h1, h2, h3, h4.mono (fun _ z => .inl z) keep fun o' q => by rw [upd_ne hca]; exact q⟩
  · obtain ⟨e', h1⟩ := old h1
    obtain ⟨e2', h2⟩ := old h2
    exact v.inj j k e' e2' c h1 h2 h3 h4
  · by_cases hj : j = i
    · subst hj
      rw [List.getElem?_set_self hi] at h; cases h
    · rw [List.getElem?_set_ne (Ne.symm hj)] at h
      obtain ⟨w, h1, h2⟩ := v.shr j e h
      exact ⟨w, h1, h2.mono (fun _ z => .inl z) keep⟩
  · have h := f.ext c o' e nb' nm
    by_cases q : c = a
    · subst q
      rcases f.fr i d c hr hs with z | z
      · exact absurd z nm
      · rw [z] at e; cases e
    · rw [upd_ne q]; exact h
  · obtain ⟨e', h1⟩ := old h1
    exact f.fr j e' c h1 h2
/-- slot i's object is shared from now on -/
@[simp] def frz (i : Nat) (ρ : VEnv) : VEnv := match ρ[i]? with
  | some (.own d) => ρ.set i (.shr d)
  | _ => ρ
theorem FOk.frz (f : FOk b H0 M Zo Z σ H ρ) (i : Nat) : ∃ Z', FOk b H0 M Zo Z' σ H (VL.frz i ρ) := by
  unfold VL.frz
  cases hr : ρ[i]? with
  | none => exact ⟨Z, f⟩
  | some s =>
    cases s with
    | un => exact ⟨Z, f⟩
    | shr d => exact ⟨Z, f⟩
    | own d =>
      have v := f.v
      obtain ⟨a, hs, hz, hzo, ho⟩ := v.own i d hr
      have hi : i < ρ.length := (List.getElem?_eq_some_iff.mp hr).1
      have sub := v.but i
      have na : ¬ zBut Zo σ ρ i a := fun z => by
        rcases z with z | ⟨j, e, hj, h1, h2⟩
        · exact hzo z
        · exact hj (v.inj j i e d a h1 hr h2 hs)
      have rp : Rp b (zBut Zo σ ρ i) H (.ref a) d := ho.rp sub na
      have eσ : σ.set i (some (.ref a)) = σ := by
        apply List.ext_getElem?
        intro j
        by_cases hj : j = i
        · subst hj
          rw [List.getElem?_set_self (List.getElem?_eq_some_iff.mp hs).1, hs]
        · rw [List.getElem?_set_ne (Ne.symm hj)]
      refine ⟨zBut Zo σ ρ i, ?_⟩
      -- as FOk.set, but the value is no longer owned
      have ow : ∀ {j : Nat} {e : D}, (ρ.set i (.shr d))[j]? = some (.own e) → j ≠ i ∧ ρ[j]? = some (.own e) := fun {j e} h => by
        by_cases hj : j = i
        · subst hj
          rw [List.getElem?_set_self hi] at h; cases h
        · rw [List.getElem?_set_ne (Ne.symm hj)] at h
          exact ⟨hj, h⟩
      refine ⟨⟨v.g, v.zb, fun a z => .inl z, fun a z => v.dom a (sub a z), fun c z => ?_, fun j e h => ?_, fun j k e e2 c h1 h2 h3 h4 => ?_, fun j e h => ?_, by simpa using v.len⟩, f.ext, fun j e c h1 h2 => f.fr j e c (ow h1).2 h2⟩
      · rcases z with z | ⟨j, e, hj, h1, h2⟩
        · exact .inl z
        · exact .inr ⟨j, e, by rw [List.getElem?_set_ne (Ne.symm hj)]; exact h1, h2⟩
      · obtain ⟨hj, h⟩ := ow h
        obtain ⟨c, h1, h2, h3, h4⟩ := v.own j e h
        exact ⟨c, h1, .inr ⟨j, e, hj, h, h1⟩, h3, h4.mono (fun c z => .inl (sub c z)) (fun _ _ e _ => e) fun _ e => e⟩
      · exact v.inj j k e e2 c (ow h1).2 (ow h2).2 h3 h4
      · by_cases hj : j = i
        · subst hj
          rw [List.getElem?_set_self hi] at h; cases h
          exact ⟨.ref a, hs, rp⟩
        · rw [List.getElem?_set_ne (Ne.symm hj)] at h
          obtain ⟨w, h1, h2⟩ := v.shr j e h
          exact ⟨w, h1, h2.mono (fun c z => .inl (sub c z)) fun _ _ e _ => e⟩
/-- a value that may leave -/
theorem FOk.out (f : FOk b H0 M Zo Z σ H ρ) {u : V} {d : D} (r : Rp b Z H u d) : Rp b Zo H u d := r.mono (fun c z => .inl (f.v.zo c z)) fun _ _ e _ => e
end
/-! ### statements -/
section
variable {X : Cx} {b : Bg} {W : WX} {e e1 e2 : Expr} {st : Stmt} {sts : List Stmt} {t t1 t2 : VT} {u : VA} {g h : VS} {pos pos' : Pos} {i : Nat} {x : Str}
@[simp] def sNext : VS := fun ρ De => De.nx ρ
@[simp] def sSeq (g h : VS) : VS := fun ρ De => g ρ { De with nx := fun ρ' => h ρ' De }
theorem vs_nil : VSs X b W [] sNext := pss_mono pss_nil fun D σ H ⟨H0, M, Zo, Z, ρ, De, f, q, l⟩ => l.nx Z σ H ρ f q
theorem vs_cons (h1 : VSt X b W st g) (h2 : VSs X b W sts h) : VSs X b W (st :: sts) (sSeq g h) :=
  pss_mono (pss_cons h1 h2) fun D σ H ⟨H0, M, Zo, Z, ρ, De, f, q, l⟩ => ⟨H0, M, Zo, Z, ρ, _, f, q, ⟨fun Z' σ' H' ρ' f' q' => ⟨H0, M, Zo, Z', ρ', De, f', q', l⟩, l.rt, l.bk, l.ct, l.ex, l.ro⟩⟩
theorem vs_one (h1 : VSt X b W st g) : VSs X b W [st] g := pss_mono (pss_one h1) fun _ _ _ q => q
/-- from here on slot i's object may be shared -/
@[simp] def sFrz (i : Nat) (g : VS) : VS := fun ρ De => g (frz i ρ) De
theorem vs_frz (i : Nat) (h : VSt X b W st g) : VSt X b W st (sFrz i g) := ps_mono h fun D σ H ⟨H0, M, Zo, Z, ρ, De, f, q, l⟩ => by
  obtain ⟨Z', f'⟩ := f.frz i
  exact ⟨H0, M, Zo, Z', _, De, f', q, l⟩
@[simp] def sBrk : VS := fun ρ De => De.bk ρ
@[simp] def sCnt : VS := fun ρ De => De.ct ρ
/-- name = value -/
@[simp] def sSet (i : Nat) (t : VT) : VS := fun ρ De => i < ρ.length ∧ t ρ (fun d => De.nx (ρ.set i (.shr d))) (De.ex ρ)
@[simp] def sSetN (i : Nat) (t : VT) : VS := fun ρ De => i < ρ.length ∧ t ρ (fun d => De.nx (ρ.set i (.own d))) (De.ex ρ)
theorem vs_set {te : TE} (hp : PS X (.Assign [.Name x pos'] e pos) (tAsg te (gName i))) (hm : ∀ σ H Q, LE b W (RE b) t σ H Q → te σ H Q) : VSt X b W (.Assign [.Name x pos'] e pos) (sSet i t) :=
  ps_mono hp fun D σ H ⟨H0, M, Zo, Z, ρ, De, f, ⟨hi, q⟩, l⟩ => hm σ H _ ⟨Zo, Z, ρ, _, _, f.v, q, fun v H' d x g r q' => l.nx _ _ H' _ ((f.ex x g).set hi r) q', l.er f⟩
theorem vs_setN {te : TE} (hp : PS X (.Assign [.Name x pos'] e pos) (tAsg te (gName i))) (hm : ∀ σ H Q, LE b W (RN b) t σ H Q → te σ H Q) : VSt X b W (.Assign [.Name x pos'] e pos) (sSetN i t) :=
  ps_mono hp fun D σ H ⟨H0, M, Zo, Z, ρ, De, f, ⟨hi, q⟩, l⟩ => hm σ H _ ⟨Zo, Z, ρ, _, _, f.v, q, fun v H' d x g r q' => by
    obtain ⟨Z', f'⟩ := f.setN hi x g r
    exact l.nx _ _ H' _ f' q', l.er f⟩
theorem vs_asg (hN : X.N.Nodup) (hi : X.N[i]? = some x) (hx : Loc X.env.scope x) (he : VE X b W e t) (hs : swapsWith e (some (.Name x pos')) pos.line X.env = pure false := by rfl)
    (hf : X.fn x = true ∨ X.env.scope.names.lookup x = some .local := by first | exact .inl rfl | exact .inr rfl | assumption) : VSt X b W (.Assign [.Name x pos'] e pos) (sSet i t) :=
  vs_set (ps_set hN hi hx he hs hf) fun _ _ _ q => q
theorem vs_asgN (hN : X.N.Nodup) (hi : X.N[i]? = some x) (hx : Loc X.env.scope x) (he : VN X b W e t) (hs : swapsWith e (some (.Name x pos')) pos.line X.env = pure false := by rfl)
    (hf : X.fn x = true ∨ X.env.scope.names.lookup x = some .local := by first | exact .inl rfl | exact .inr rfl | assumption) : VSt X b W (.Assign [.Name x pos'] e pos) (sSetN i t) :=
  vs_setN (ps_set hN hi hx he hs hf) fun _ _ _ q => q
@[simp] def sExpr (t : VT) : VS := fun ρ De => t ρ (fun _ => De.nx ρ) (De.ex ρ)
theorem vs_expr (he : VE X b W e t) (hs : swapsWith e none pos.line X.env = pure false := by rfl) : VSt X b W (.Expr e pos) (sExpr t) :=
  ps_mono (ps_expr he hs) fun D σ H ⟨H0, M, Zo, Z, ρ, De, f, q, l⟩ => ⟨Zo, Z, ρ, _, _, f.v, q, fun v H' d x g r q' => l.nx _ _ H' _ (f.ex x g) q', l.er f⟩
@[simp] def sRet (t : VT) : VS := fun ρ De => t ρ De.rt (De.ex ρ)
theorem vs_ret (he : VE X b W e t) : VSt X b W (.Return (some e) pos) (sRet t) :=
  ps_mono (ps_ret he) fun D σ H ⟨H0, M, Zo, Z, ρ, De, f, q, l⟩ => ⟨Zo, Z, ρ, _, _, f.v, q, fun v H' d x g r q' => l.rt v H' d (f.ex x g).ext g ((f.ex x g).out r) q', l.er f⟩
@[simp] def sRetN : VS := fun _ De => De.rt (.py .none)
@[simp] def sIf (c : VB) (g h : VS) : VS := fun ρ De => c ρ (fun k => if k = true then g ρ De else h ρ De) (De.ex ρ)
theorem vs_if {c : Expr} {tc : VB} {xs ys : List Stmt} (hc : VTe X b W c tc) (h1 : VSs X b W xs g) (h2 : VSs X b W ys h) : VSt X b W (.If c xs ys pos) (sIf tc g h) :=
  ps_mono (ps_if hc h1 h2) fun D σ H ⟨H0, M, Zo, Z, ρ, De, f, q, l⟩ => ⟨Zo, Z, ρ, _, _, f.v, q, fun k H' x g q' => by
    cases k with
    | true => exact ⟨H0, M, Zo, Z, ρ, De, f.ex x g, q', l⟩
    | false => exact ⟨H0, M, Zo, Z, ρ, De, f.ex x g, q', l⟩, l.er f⟩
/-- name op= value -/
@[simp] def sAug (i : Nat) (g : D → D → (D → Prop) → Prop) (t : VT) : VS := fun ρ De => ∃ d, ρ[i]? = some (.shr d) ∧ t ρ (fun y => g d y fun z => De.nx (ρ.set i (.shr z))) (De.ex ρ)
/-! ### loops -/
/-- what an iterator gives: the items, one a turn, while what stood at H outside of Y stands -/
structure Wk (b : Bg) (Y Z : Addr → Prop) (H : Hp) (J : It) (ds : List D) : Prop where
  go : ∀ (k : Nat) (d : D) (H2 : Hp), ds[k]? = some d → (∀ a o, H a = some o → ¬ Y a → H2 a = some o) → b.G H2 → J.go k H2 ∧ ∀ v H3, J.yld k H2 v H3 → Ex b H2 H3 ∧ b.G H3 ∧ ∀ Z2 : Addr → Prop, (∀ a, Z2 a → Z a ∨ H a = none) → (∀ a, Z2 a → H2 a ≠ none) → Rp b Z2 H3 v d
  stop : ∀ (k : Nat) (H2 : Hp), ds.length = k → (∀ a o, H a = some o → ¬ Y a → H2 a = some o) → J.stop k H2
abbrev VIt := VEnv → (List D → Prop) → (Er → Prop) → Prop
def LI (b : Bg) (W : WX) (Y : (Addr → Prop) → Addr → Prop) (t : VIt) : TI := fun σ H R => ∃ Zo Z ρ Qd Ed, VOk b Zo Z σ H ρ ∧ t ρ Qd Ed ∧
  (∀ J H' ds, Ex b H H' → b.G H' → Wk b (Y Z) Z H' J ds → Qd ds → R J H') ∧ ∀ c x H' er, Ex b H H' → b.G H' → ErRp b Z H' c x er → Ed er → W c x σ H'
/-- for a loop: what is owned may change; for a block: nothing but the zone -/
def VI (X : Cx) (b : Bg) (W : WX) (tg iter : Expr) (t : VIt) : Prop := PI X tg iter (LI b W (fun Z => Z) t)
def VIb (X : Cx) (b : Bg) (W : WX) (tg iter : Expr) (t : VIt) : Prop := PI X tg iter (LI b W (fun _ => b.B) t)
/-- a target -/
abbrev VTg := D → VEnv → (VEnv → Prop) → Prop
abbrev VTgs := List D → VEnv → (VEnv → Prop) → Prop
/-- the slots but those at js are as they were -/
structure Same (js : List Nat) (σ σ' : L2.St) (ρ ρ' : VEnv) : Prop where
  len : σ'.length = σ.length
  out : ∀ j, j ∉ js → σ'[j]? = σ[j]?
  env : ∀ j, j ∉ js → ρ'[j]? = ρ[j]?
theorem Same.refl {js : List Nat} {σ : L2.St} {ρ : VEnv} : Same js σ σ ρ ρ := ⟨rfl, fun _ _ => rfl, fun _ _ => rfl⟩
theorem Same.trans {js ks : List Nat} {σ σ1 σ2 : L2.St} {ρ ρ1 ρ2 : VEnv} (h : Same js σ σ1 ρ ρ1) (k : Same ks σ1 σ2 ρ1 ρ2) : Same (js ++ ks) σ σ2 ρ ρ2 :=
  ⟨k.len.trans h.len, fun j hj => (k.out j fun m => hj (List.mem_append_right _ m)).trans (h.out j fun m => hj (List.mem_append_left _ m)), fun j hj => (k.env j fun m => hj (List.mem_append_right _ m)).trans (h.env j fun m => hj (List.mem_append_left _ m))⟩
def LG (b : Bg) (js : List Nat) (t : VTg) : TG := fun v σ H Q => ∃ H0 M Zo Z ρ d Qd, FOk b H0 M Zo Z σ H ρ ∧ Rp b Z H v d ∧ t d ρ Qd ∧ ∀ Z' σ' ρ', (∀ a, Z' a → Z a) → Same js σ σ' ρ ρ' → FOk b H0 M Zo Z' σ' H ρ' → Qd ρ' → Q σ' H
def VG (X : Cx) (b : Bg) (tg : Expr) (js : List Nat) (t : VTg) : Prop := PG X tg (LG b js t)
theorem pg_mono {e : Expr} {t t' : TG} (h : PG X e t) (m : ∀ v σ H Q, t' v σ H Q → t v σ H Q) : PG X e t' := ⟨fun pins s σ H v u Q I r q => h.run pins s σ H v u Q I r (m v σ H Q q)⟩
@[simp] def tgName (i : Nat) : VTg := fun d ρ Q => i < ρ.length ∧ Q (ρ.set i (.shr d))
theorem vg_name (hN : X.N.Nodup) (hi : X.N[i]? = some x) (hx : Loc X.env.scope x) (hf : X.fn x = true ∨ X.env.scope.names.lookup x = some .local := by first | exact .inl rfl | exact .inr rfl | assumption) : VG X b (.Name x pos) [i] (tgName i) :=
  pg_mono (pg_name hN hi hx hf) fun v σ H Q ⟨H0, M, Zo, Z, ρ, d, Qd, f, r, ⟨hl, q⟩, k⟩ => k _ _ _ (f.v.but i) ⟨List.length_set .., fun j hj => List.getElem?_set_ne fun e => hj (by rw [e]; exact List.mem_singleton.mpr rfl), fun j hj => List.getElem?_set_ne fun e => hj (by rw [e]; exact List.mem_singleton.mpr rfl)⟩ (f.set hl r) q
/-- several targets -/
def LGs (b : Bg) (js : List Nat) (t : VTgs) : TGs := fun v σ H Q => ∃ H0 M Zo Z ρ d Qd, FOk b H0 M Zo Z σ H ρ ∧ Rps b Z H v d ∧ t d ρ Qd ∧ ∀ Z' σ' ρ', (∀ a, Z' a → Z a) → Same js σ σ' ρ ρ' → FOk b H0 M Zo Z' σ' H ρ' → Qd ρ' → Q σ' H
def VGs (X : Cx) (b : Bg) (tg : List Expr) (js : List Nat) (t : VTgs) : Prop := PGs X tg (LGs b js t)
theorem pgs_mono {e : List Expr} {t t' : TGs} (h : PGs X e t) (m : ∀ v σ H Q, t' v σ H Q → t v σ H Q) : PGs X e t' := ⟨fun pins s σ H v u Q I r q => h.run pins s σ H v u Q I r (m v σ H Q q)⟩
@[simp] def tgNil : VTgs
  | [], ρ, Q => Q ρ
  | _, _, _ => False
@[simp] def tgCons (t : VTg) (u : VTgs) : VTgs
  | d :: r, ρ, Q => t d ρ fun ρ' => u r ρ' Q
  | _, _, _ => False
theorem vgs_nil : VGs X b [] [] tgNil := pgs_mono pgs_nil fun v σ H Q ⟨H0, M, Zo, Z, ρ, d, Qd, f, r, q, k⟩ => by
  cases r with
  | nil => exact ⟨rfl, k Z σ ρ (fun _ z => z) .refl f q⟩
  | cons _ _ => exact False.elim q
theorem vgs_cons {tg : Expr} {tgs : List Expr} {js ks : List Nat} {t : VTg} {u : VTgs} (h1 : VG X b tg js t) (h2 : VGs X b tgs ks u)
    (hs : (assignEach (tg :: tgs) X.env).map (·.2) = assign tg X.env :: (assignEach tgs X.env).map (·.2) := by rfl) : VGs X b (tg :: tgs) (js ++ ks) (tgCons t u) :=
  pgs_mono (pgs_cons h1 h2 hs) fun v σ H Q ⟨H0, M, Zo, Z, ρ, d, Qd, f, r, q, k⟩ => by
    cases r with
    | nil => exact False.elim q
    | @cons _ d1 _ dr r1 rr => exact ⟨_, _, rfl, H0, M, Zo, Z, ρ, d1, _, f, r1, q, fun Z' σ' ρ' sub sm f' q' => ⟨H0, M, Zo, Z', ρ', dr, Qd, f', rr.mono (fun a z => .inl (sub a z)) (fun _ _ e _ => e), q', fun Z2 σ2 ρ2 sub2 sm2 f2 q2 => k Z2 σ2 ρ2 (fun a z => sub a (sub2 a z)) (sm.trans sm2) f2 q2⟩⟩
@[simp] def tgTup (n : Nat) (u : VTgs) : VTg
  | .py (.tuple ps), ρ, Q => ps.length = n ∧ u (ps.map D.py) ρ Q
  | _, _, _ => False
theorem tgTup_ex {n : Nat} {u : VTgs} : ∀ {d : D} {ρ : VEnv} {Q : VEnv → Prop}, tgTup n u d ρ Q → ∃ ps, d = .py (.tuple ps) ∧ ps.length = n ∧ u (ps.map D.py) ρ Q
  | .py (.tuple ps), _, _, h => ⟨ps, rfl, h⟩
theorem vg_tup {tgs : List Expr} {k n : Nat} {js : List Nat} {u : VTgs} (hc : X.calm = true) (h : VGs X b tgs js u) (hn : (assignEach tgs X.env).length = n := by rfl) (hst : (assignEach tgs X.env).findIdx? (·.1) = none := by rfl) : VG X b (.Tuple tgs k pos) js (tgTup n u) :=
  pg_mono (pg_tup hc h hn hst) fun v σ H Q ⟨H0, M, Zo, Z, ρ, d, Qd, f, r, hh, k⟩ => by
    obtain ⟨ps, e, hl, q⟩ := tgTup_ex hh
    subst e
    obtain ⟨a, o, xs, rfl, ha, ho, na, qa⟩ := Rb.tuple (b := b) (.inl r)
    exact ⟨a, xs, rfl, SqT.th ha, by rw [qa.length]; exact hl, H0, M, Zo, Z, ρ, _, Qd, f, qa.to, q, k⟩
/-- target = value -/
@[simp] def sAsg (t : VT) (g : VTg) : VS := fun ρ De => t ρ (fun d => g d ρ De.nx) (De.ex ρ)
theorem vs_asgT {tg : Expr} {js : List Nat} {g : VTg} (he : VE X b W e t) (hg : VG X b tg js g) (hs : swapsWithSole [tg] e pos.line X.env = pure false := by rfl) (hw : swappedStores [tg] e X.env = pure none := by rfl)
    (h1 : (assignEach [tg] X.env).map (·.2) = [assign tg X.env] := by rfl) : VSt X b W (.Assign [tg] e pos) (sAsg t g) :=
  ps_mono (ps_asg he hg hs hw h1) fun D σ H ⟨H0, M, Zo, Z, ρ, De, f, q, l⟩ => ⟨Zo, Z, ρ, _, _, f.v, q, fun v H' d x g r q' =>
    ⟨H0, M, Zo, Z, ρ, d, _, f.ex x g, r, q', fun Z' σ' ρ' _ _ f' q2 => l.nx Z' σ' H' ρ' f' q2⟩, l.er f⟩
end
end VL
set_option Elab.async false
set_option linter.all false
set_option maxRecDepth 100000
set_option maxHeartbeats 4000000
namespace VL
open PySem PySem.Spec PyProof.Rows L2
/-! ### values some of which are new -/
inductive Rm (b : Bg) (Y : Addr → Prop) (H H' : Hp) : List V → List (Bool × D) → List Addr → Prop
  | nil : Rm b Y H H' [] [] []
  | sh {v : V} {d : D} {vs : List V} {ms : List (Bool × D)} {N : List Addr} : Rp b Y H' v d → Rm b Y H H' vs ms N → Rm b Y H H' (v :: vs) ((false, d) :: ms) N
  | nw {a : Addr} {d : D} {vs : List V} {ms : List (Bool × D)} {N : List Addr} : H a = none → a ∉ N → Ow b Y H' a d → Rm b Y H H' vs ms N → Rm b Y H H' (.ref a :: vs) ((true, d) :: ms) (a :: N)
abbrev VAm := VEnv → (List (Bool × D) → Prop) → (Er → Prop) → Prop
def LAm (b : Bg) (W : WX) (t : VAm) : TA := fun σ H Q => ∃ Zo Z ρ Qd Ed, VOk b Zo Z σ H ρ ∧ t ρ Qd Ed ∧
  (∀ vs H' ms N, Ex b H H' → b.G H' → Rm b (fun c => Z c ∨ c ∈ N) H H' vs ms N → Qd ms → Q vs H') ∧ ∀ c x H' er, Ex b H H' → b.G H' → ErRp b Z H' c x er → Ed er → W c x σ H'
def VMs (X : Cx) (b : Bg) (W : WX) (es : List Expr) (t : VAm) : Prop := PA X es (LAm b W t)
@[simp] def mNil : VAm := fun _ Q _ => Q []
@[simp] def mCons (k : Bool) (t : VT) (u : VAm) : VAm := fun ρ Q E => t ρ (fun d => u ρ (fun ds => Q ((k, d) :: ds)) E) E
section
variable {b : Bg} {Y Y' : Addr → Prop} {H H' H1 : Hp} {vs : List V} {ms : List (Bool × D)} {N : List Addr}
theorem Rm.sub (h : ∀ c, Y' c → Y c) : ∀ {vs : List V} {ms : List (Bool × D)} {N : List Addr}, Rm b Y H H' vs ms N → Rm b Y' H H' vs ms N
  | _, _, _, .nil => .nil
  | _, _, _, .sh r t => .sh (r.mono (fun c z => .inl (h c z)) fun _ _ e _ => e) (Rm.sub h t)
  | _, _, _, .nw hn hm o t => .nw hn hm (o.mono (fun c z => .inl (h c z)) (fun _ _ e _ => e) fun _ e => e) (Rm.sub h t)
theorem Rm.back (h : ∀ c, H1 c = none → H c = none) : ∀ {vs : List V} {ms : List (Bool × D)} {N : List Addr}, Rm b Y H1 H' vs ms N → Rm b Y H H' vs ms N
  | _, _, _, .nil => .nil
  | _, _, _, .sh r t => .sh r (Rm.back h t)
  | _, _, _, .nw hn hm o t => .nw (h _ hn) hm o (Rm.back h t)
theorem Rm.new : ∀ {vs : List V} {ms : List (Bool × D)} {N : List Addr}, Rm b Y H H' vs ms N → ∀ c ∈ N, H c = none ∧ H' c ≠ none
  | _, _, _, .nil, _, h => nomatch h
  | _, _, _, .sh _ t, c, h => Rm.new t c h
  | _, _, _, .nw hn _ o t, c, h => by
    rcases List.mem_cons.mp h with rfl | h
    · obtain ⟨u, e⟩ := o.at
      exact ⟨hn, by rw [e]; simp⟩
    · exact Rm.new t c h
theorem none_back (g : b.G H1) (x : Ex b H H1) (c : Addr) (h : H1 c = none) : H c = none := by
  cases q : H c with
  | none => rfl
  | some u =>
    by_cases hb : b.B c
    · exact absurd h (b.dom _ _ g hb)
    · rw [x c u q hb] at h; cases h
end
section
variable {b : Bg} {Zo Z : Addr → Prop} {σ : L2.St} {H H' : Hp} {ρ : VEnv}
/-- new addresses held apart by an outer one -/
theorem VOk.many (v : VOk b Zo Z σ H ρ) (x : Ex b H H') (g : b.G H') {N : List Addr} (hN : ∀ c ∈ N, H c = none ∧ H' c ≠ none) : VOk b (fun c => Zo c ∨ c ∈ N) (fun c => Z c ∨ c ∈ N) σ H' ρ := by
  have v' := v.ex x g
  have hz : ∀ c, (Z c ∨ c ∈ N) → Z c ∨ H c = none := fun c z => z.imp id fun m => (hN c m).1
  refine ⟨g, fun c z => .inl (v.zb c z), fun c z => z.imp (v.zo c) id, fun c z => z.elim (v'.dom c) fun m => (hN c m).2, fun c z => z.elim (fun z => (v.zi c z).imp .inl id) fun m => .inl (.inr m), fun i d e => ?_, v.inj, fun i d e => ?_, v.len⟩
  · obtain ⟨a, h1, h2, h3, h4⟩ := v.own i d e
    refine ⟨a, h1, .inl h2, fun z => z.elim h3 fun m => v.dom a h2 (hN a m).1, h4.mono hz (v.keep x) fun o q => x a o q fun z => h3 (v.zb a z)⟩
  · obtain ⟨u, h1, h2⟩ := v.shr i d e
    exact ⟨u, h1, h2.mono hz (v.keep x)⟩
end
section
variable {X : Cx} {b : Bg} {W : WX} {e e1 e2 : Expr} {es : List Expr} {t t1 t2 : VT} {u : VAm} {pos : Pos}
theorem vm_nil : VMs X b W [] mNil := pa_mono pa_nil fun σ H Q ⟨Zo, Z, ρ, Qd, Ed, v, q, l, _⟩ => l [] H [] [] Ex.refl v.g .nil q
theorem vm_sh (h : VE X b W e t) (k : VMs X b W es u) (hs : starEach (e :: es) X.env = (false, eval e X.env) :: starEach es X.env := by rfl) : VMs X b W (e :: es) (mCons false t u) :=
  pa_mono (pa_cons h k hs) fun σ H Q ⟨Zo, Z, ρ, Qd, Ed, v, q, l, m⟩ => ⟨Zo, Z, ρ, _, Ed, v, q, fun x H1 d x1 g1 r1 q1 =>
    ⟨Zo, Z, ρ, _, Ed, v.ex x1 g1, q1, fun xs H2 ms N x2 g2 r2 q2 => l (x :: xs) H2 ((false, d) :: ms) N (x1.trans x2) g2
        (.sh (r1.mono (fun c z => z.imp id fun m => (r2.new c m).1) ((v.ex x1 g1).keep x2)) (r2.back (none_back g1 x1))) q2,
      fun c y H2 er x2 g2 r2 q2 => m c y H2 er (x1.trans x2) g2 r2 q2⟩, m⟩
theorem vm_nw (h : VN X b W e t) (k : VMs X b W es u) (hs : starEach (e :: es) X.env = (false, eval e X.env) :: starEach es X.env := by rfl) : VMs X b W (e :: es) (mCons true t u) :=
  pa_mono (pa_cons h k hs) fun σ H Q ⟨Zo, Z, ρ, Qd, Ed, v, q, l, m⟩ => ⟨Zo, Z, ρ, _, Ed, v, q, fun x H1 d x1 g1 ⟨a, ex, hn, o⟩ q1 => by
    subst ex
    obtain ⟨oa, ea⟩ := o.at
    have h1 : H1 a ≠ none := by rw [ea]; simp
    have nb : ¬ b.B a := fun z => v.fresh hn (v.zo a (v.zb a z))
    have v1 := v.many x1 g1 (N := [a]) fun c hc => by rw [List.mem_singleton.mp hc]; exact ⟨hn, h1⟩
    refine ⟨_, _, ρ, _, Ed, v1, q1, fun xs H2 ms N x2 g2 r2 q2 => ?_, fun c y H2 er x2 g2 r2 q2 => m c y H2 er (x1.trans x2) g2 ?_ q2⟩
    · have hN : a ∉ N := fun hm => h1 (r2.new a hm).1
      refine l (.ref a :: xs) H2 ((true, d) :: ms) (a :: N) (x1.trans x2) g2 (.nw hn hN ?_ ((r2.sub fun c z => ?_).back (none_back g1 x1))) q2
      · refine o.mono (fun c z => ?_) (fun c oc ec nc => x2 c oc ec fun z => nc (.inl (v.zo c (v.zb c z)))) fun oc ec => x2 a oc ec nb
        rcases z with z | z
        · exact .inl (.inl z)
        · rcases List.mem_cons.mp z with rfl | z
          · exact .inl (.inr rfl)
          · exact .inr (r2.new c z).1
      · rcases z with z | z
        · exact .inl (.inl z)
        · rcases List.mem_cons.mp z with rfl | z
          · exact .inl (.inr (List.mem_singleton.mpr rfl))
          · exact .inr z
    · obtain ⟨h3, h4⟩ := r2
      refine ⟨h3, h4.imp id ?_⟩
      rintro ⟨c, ys, e1, e2, e3, e4⟩
      exact ⟨c, ys, e1, e2, fun z => e3 (.inl z), e4.mono (fun c z => .inl (.inl z)) fun _ _ e _ => e⟩, m⟩
end
/-! ### a, b, .. = values -/
def setA : List Nat → List V → L2.St → L2.St
  | i :: is, v :: vs, σ => setA is vs (σ.set i (some v))
  | _, _, σ => σ
@[simp] def setE : List Nat → List (Bool × D) → VEnv → VEnv
  | i :: is, (k, d) :: ms, ρ => setE is ms (ρ.set i (if k = true then .own d else .shr d))
  | _, _, ρ => ρ
section
variable {b : Bg} {W : WX} {H0 : Hp} {M Zo Z : Addr → Prop} {σ : L2.St} {H H' : Hp} {ρ : VEnv} {De : VEnds} {Dn : Ends}
theorem FOk.many (f : FOk b H0 M Zo Z σ H ρ) (x : Ex b H H') (g : b.G H') {N : List Addr} (hN : ∀ c ∈ N, H c = none ∧ H' c ≠ none) : FOk b H0 M (fun c => Zo c ∨ c ∈ N) (fun c => Z c ∨ c ∈ N) σ H' ρ :=
  ⟨f.v.many x g hN, fun a o e nb nm => x a o (f.ext a o e nb nm) nb, f.fr⟩
/-- an address held apart becomes slot i's own -/
theorem FOk.adopt {a : Addr} {N : List Addr} {d : D} {i : Nat} (f : FOk b H0 M (fun c => Zo c ∨ c ∈ a :: N) Z σ H ρ) (hzb : ∀ c, b.B c → Zo c) (hN : a ∉ N) (hz : ¬ Zo a) (hf : M a ∨ H0 a = none) (hi : i < ρ.length) (o : Ow b Z H a d) :
    ∃ Z', FOk b H0 M (fun c => Zo c ∨ c ∈ N) Z' (σ.set i (some (.ref a))) H (ρ.set i (.own d)) ∧ ∀ c, Z' c → Z c := by
  have v := f.v
  have hiσ : i < σ.length := by rw [← v.len]; exact hi
  have hza : Z a := v.zo a (.inr List.mem_cons_self)
  have low : ∀ c, (Zo c ∨ c ∈ N) → (Zo c ∨ c ∈ a :: N) := fun c z => z.imp id (List.mem_cons_of_mem _)
  let Z' : Addr → Prop := fun c => (zBut (fun c => Zo c ∨ c ∈ N) σ ρ i c) ∨ c = a
  have sub : ∀ c, Z' c → Z c := fun c z => by
    rcases z with (z | ⟨j, e, _, h1, h2⟩) | rfl
    · exact v.zo c (low c z)
    · obtain ⟨c', h3, h4, _⟩ := v.own j e h1
      rw [h2] at h3; cases h3; exact h4
    · exact hza
  have na : ∀ (j : Nat) (e : D) (c : Addr), ρ[j]? = some (.own e) → σ[j]? = some (some (.ref c)) → c ≠ a := fun j e c h1 h2 q => by
    obtain ⟨c', h3, _, h4, _⟩ := v.own j e h1
    rw [h2] at h3; cases h3; rw [q] at h4
    exact h4 (.inr List.mem_cons_self)
  have ow : ∀ {j : Nat} {e : D}, (ρ.set i (.own d))[j]? = some (.own e) → (j = i ∧ e = d) ∨ (j ≠ i ∧ ρ[j]? = some (.own e)) := fun {j e} h => by
    by_cases hj : j = i
    · subst hj
      rw [List.getElem?_set_self hi] at h; cases h; exact .inl ⟨rfl, rfl⟩
    · rw [List.getElem?_set_ne (Ne.symm hj)] at h
      exact .inr ⟨hj, h⟩
  refine ⟨Z', ⟨⟨v.g, fun c z => .inl (hzb c z), fun c z => .inl (.inl z), fun c z => v.dom c (sub c z), fun c z => ?_, fun j e h => ?_, fun j k e e2 c h1 h2 h3 h4 => ?_, fun j e h => ?_, by simpa using v.len⟩, f.ext, fun j e c h1 h2 => ?_⟩, sub⟩
  · rcases z with (z | ⟨j, e, hj, h1, h2⟩) | rfl
    · exact .inl z
    · exact .inr ⟨j, e, by rw [List.getElem?_set_ne (Ne.symm hj)]; exact h1, by rw [List.getElem?_set_ne (Ne.symm hj)]; exact h2⟩
    · exact .inr ⟨i, d, List.getElem?_set_self hi, List.getElem?_set_self hiσ⟩
  · rcases ow h with ⟨q1, q2⟩ | ⟨hj, p1⟩
    · rw [q1, q2]
      exact ⟨a, List.getElem?_set_self hiσ, .inr rfl, fun z => z.elim hz hN, o.mono (fun c z => .inl (sub c z)) (fun _ _ e _ => e) fun _ e => e⟩
    · obtain ⟨c, h1, h2, h3, h4⟩ := v.own j e p1
      exact ⟨c, by rw [List.getElem?_set_ne (Ne.symm hj)]; exact h1, .inl (.inr ⟨j, e, hj, p1, h1⟩), fun z => h3 (low c z), h4.mono (fun c z => .inl (sub c z)) (fun _ _ e _ => e) fun _ e => e⟩
  · rcases ow h1 with ⟨q1, _⟩ | ⟨hj, p1⟩
    · rcases ow h2 with ⟨q2, _⟩ | ⟨hk, p2⟩
      · rw [q1, q2]
      · rw [q1, List.getElem?_set_self hiσ] at h3; cases h3
        rw [List.getElem?_set_ne (Ne.symm hk)] at h4
        exact absurd rfl (na k e2 _ p2 h4)
    · rw [List.getElem?_set_ne (Ne.symm hj)] at h3
      rcases ow h2 with ⟨q2, _⟩ | ⟨hk, p2⟩
      · rw [q2, List.getElem?_set_self hiσ] at h4; cases h4
        exact absurd rfl (na j e _ p1 h3)
      · rw [List.getElem?_set_ne (Ne.symm hk)] at h4
        exact v.inj j k e e2 c p1 p2 h3 h4
  · by_cases hj : j = i
    · rw [hj, List.getElem?_set_self hi] at h; cases h
    · rw [List.getElem?_set_ne (Ne.symm hj)] at h
      obtain ⟨w, h1, h2⟩ := v.shr j e h
      exact ⟨w, by rw [List.getElem?_set_ne (Ne.symm hj)]; exact h1, h2.mono (fun c z => .inl (sub c z)) fun _ _ e _ => e⟩
  · rcases ow h1 with ⟨q1, _⟩ | ⟨hj, p1⟩
    · rw [q1, List.getElem?_set_self hiσ] at h2; cases h2
      exact hf
    · rw [List.getElem?_set_ne (Ne.symm hj)] at h2
      exact f.fr j e c p1 h2
/-- all of them, one after another -/
theorem FOk.setAll (hb : ∀ c, b.B c → Zo c) : ∀ (is : List Nat) (vs : List V) (ms : List (Bool × D)) (N : List Addr) (Z : Addr → Prop) (σ : L2.St) (ρ : VEnv), FOk b H0 M (fun c => Zo c ∨ c ∈ N) Z σ H' ρ → Rm b Z H H' vs ms N → (∀ c ∈ N, ¬ Zo c ∧ (M c ∨ H0 c = none)) →
    ms.length = is.length → (∀ i ∈ is, i < ρ.length) → ∃ Z', FOk b H0 M Zo Z' (VL.setA is vs σ) H' (setE is ms ρ) := by
  intro is
  induction is with
  | nil =>
    intro vs ms N Z σ ρ f r hN hl hi
    cases r with
    | nil =>
      refine ⟨Z, ?_⟩
      have e : (fun c => Zo c ∨ c ∈ ([] : List Addr)) = Zo := by funext c; simp
      rw [e] at f
      exact f
    | sh _ _ => simp at hl
    | nw _ _ _ _ => simp at hl
  | cons i is ih =>
    intro vs ms N Z σ ρ f r hN hl hi
    cases r with
    | nil => simp at hl
    | sh r t =>
      have f1 := f.set (hi i List.mem_cons_self) r
      exact ih _ _ _ _ _ _ f1 (t.sub (f.v.but i)) hN (by simpa using hl) fun j hj => by rw [List.length_set]; exact hi j (List.mem_cons_of_mem _ hj)
    | nw hn hm o t =>
      obtain ⟨Z1, f1, sub⟩ := f.adopt hb hm (hN _ List.mem_cons_self).1 (hN _ List.mem_cons_self).2 (hi i List.mem_cons_self) o
      exact ih _ _ _ _ _ _ f1 (t.sub sub) (fun c hc => hN c (List.mem_cons_of_mem _ hc)) (by simpa using hl) fun j hj => by rw [List.length_set]; exact hi j (List.mem_cons_of_mem _ hj)
theorem FOk.par (f : FOk b H0 M Zo Z σ H ρ) {is : List Nat} {vs : List V} {ms : List (Bool × D)} {N : List Addr} (x : Ex b H H') (g : b.G H') (r : Rm b (fun c => Z c ∨ c ∈ N) H H' vs ms N) (hl : ms.length = is.length) (hi : ∀ i ∈ is, i < ρ.length) : ∃ Z', FOk b H0 M Zo Z' (VL.setA is vs σ) H' (setE is ms ρ) := by
  refine FOk.setAll f.v.zb is vs ms N _ σ ρ (f.many x g r.new) r (fun c hc => ⟨fun z => f.v.dom c (f.v.zo c z) (r.new c hc).1, ?_⟩) hl hi
  have hn := (r.new c hc).1
  cases q : H0 c with
  | none => exact .inr rfl
  | some u =>
    by_cases hb : b.B c
    · exact absurd hn (b.dom _ _ f.v.g hb)
    · by_cases hm : M c
      · exact .inl hm
      · have := f.ext c u q hb hm
        rw [hn] at this; cases this
end
section
variable {X : Cx} {b : Bg} {W : WX} {e e1 e2 e3 : Expr} {es : List Expr} {t t1 t2 : VT} {u : VAm} {pos : Pos}
@[simp] def sPar (is : List Nat) (u : VAm) : VS := fun ρ De => (∀ i ∈ is, i < ρ.length) ∧ u ρ (fun ms => ms.length = is.length ∧ De.nx (setE is ms ρ)) (De.ex ρ)
theorem Rm.len {Y : Addr → Prop} {H H' : Hp} : ∀ {vs : List V} {ms : List (Bool × D)} {N : List Addr}, Rm b Y H H' vs ms N → vs.length = ms.length
  | _, _, _, .nil => rfl
  | _, _, _, .sh _ t => congrArg (· + 1) (Rm.len t)
  | _, _, _, .nw _ _ _ t => congrArg (· + 1) (Rm.len t)
theorem vs_par2 {i j : Nat} {x y : Str} {px py pt : Pos} {kt k2 pt2} (hc : X.calm = true) (hN : X.N.Nodup) (hi : X.N[i]? = some x) (hj : X.N[j]? = some y) (hij : i ≠ j)
    (hx : X.env.scope.names.lookup x = some .local) (hy : X.env.scope.names.lookup y = some .local) (ha : VMs X b W [e1, e2] u)
    (hw : swappedStores [.Tuple [.Name x px, .Name y py] kt pt] (.Tuple [e1, e2] k2 pt2) X.env = pure (some [x, y]))
    (hs : swapsWithSole [.Tuple [.Name x px, .Name y py] kt pt] (.Tuple [e1, e2] k2 pt2) pos.line X.env = pure false := by rfl) :
    VSt X b W (.Assign [.Tuple [.Name x px, .Name y py] kt pt] (.Tuple [e1, e2] k2 pt2) pos) (sPar [i, j] u) :=
  ps_mono (ps_par hc hN hi hj hij hx hy ha hw hs) fun D σ H ⟨H0, M, Zo, Z, ρ, De, f, ⟨hl, q⟩, l⟩ => ⟨Zo, Z, ρ, _, _, f.v, q, fun vs H' ms N x g r ⟨hm, q'⟩ => by
    obtain ⟨Z', f'⟩ := f.par (is := [i, j]) x g r hm hl
    match vs, r.len.trans hm with
    | [v, w], _ => exact ⟨v, w, rfl, l.nx Z' _ H' _ f' q'⟩, l.er f⟩
theorem vs_par3 {i j k : Nat} {x y z : Str} {px py pz pt : Pos} {kt k2 pt2} (hc : X.calm = true) (hN : X.N.Nodup) (hi : X.N[i]? = some x) (hj : X.N[j]? = some y) (hk : X.N[k]? = some z) (hij : i ≠ j) (hik : i ≠ k) (hjk : j ≠ k)
    (hx : X.env.scope.names.lookup x = some .local) (hy : X.env.scope.names.lookup y = some .local) (hz : X.env.scope.names.lookup z = some .local) (ha : VMs X b W [e1, e2, e3] u)
    (hw : swappedStores [.Tuple [.Name x px, .Name y py, .Name z pz] kt pt] (.Tuple [e1, e2, e3] k2 pt2) X.env = pure (some [x, y, z]))
    (hs : swapsWithSole [.Tuple [.Name x px, .Name y py, .Name z pz] kt pt] (.Tuple [e1, e2, e3] k2 pt2) pos.line X.env = pure false := by rfl) :
    VSt X b W (.Assign [.Tuple [.Name x px, .Name y py, .Name z pz] kt pt] (.Tuple [e1, e2, e3] k2 pt2) pos) (sPar [i, j, k] u) :=
  ps_mono (ps_par3 hc hN hi hj hk hij hik hjk hx hy hz ha hw hs) fun D σ H ⟨H0, M, Zo, Z, ρ, De, f, ⟨hl, q⟩, l⟩ => ⟨Zo, Z, ρ, _, _, f.v, q, fun vs H' ms N x g r ⟨hm, q'⟩ => by
    obtain ⟨Z', f'⟩ := f.par (is := [i, j, k]) x g r hm hl
    match vs, r.len.trans hm with
    | [v, w, y], _ => exact ⟨v, w, y, rfl, l.nx Z' _ H' _ f' q'⟩, l.er f⟩
end
end VL
set_option Elab.async false
set_option linter.all false
set_option maxRecDepth 100000
set_option maxHeartbeats 4000000
namespace VL
open PySem PySem.Spec PyProof.Rows L2
/-! ### sources: a list, a tuple, a text -/
inductive Kd where
  | l (a : Addr) | t (a : Addr) | s (x : Str) (k : Tok)
def Kd.val : Kd → Value
  | .l a => .ref a | .t a => .ref a | .s x k => .str x k
def Kd.obj : Kd → Obj
  | .l a => { cls := .type "list_iterator", data := .fields #[.ref a, .int 0 0] }
  | .t a => { cls := .type "tuple_iterator", data := .fields #[.ref a, .int 0 0] }
  | .s x k => { cls := .type (strIterType x), data := .fields #[.str x k, .int 0 0] }
/-- the walker at it stands at item i -/
def Kd.At : Kd → Addr → Nat → Heap → Prop
  | .l a, it, i, h => h.IsListIter it a i
  | .t a, it, i, h => h.IsTupleIter it a i
  | .s x k, it, i, h => h.IsStrIter it (strIterType x) x k i
def Kd.ad : Kd → List Addr
  | .l a => [a] | .t a => [a] | .s _ _ => []
def signs (x : Str) : List V := x.cps.toList.map fun c => V.str (mkS [c])
def Kd.gives (K : PySem.W.Frag) (H : Hp) : Kd → List V → Prop
  | .l a, xs => SqL K H a xs
  | .t a, xs => SqT K H a xs
  | .s x _, xs => xs = signs x
theorem Kd.begins {X : Cx} {pins : List (Addr × Obj)} {σ : L2.St} {H : Hp} {s : Shared} (I : Inv X pins σ H s) {k : Kd} {xs : List V} (g : k.gives X.K H xs) : ∃ Hs, Begins k.val k.obj Hs ∧ Hs s.heap ∧ ∀ b ∈ k.ad, b < s.heap.objs.size := by
  cases k with
  | l a =>
    obtain ⟨its, _, p, _⟩ := I.list g
    exact ⟨_, begins_list a its.toArray, p.isList, fun b hb => by rw [List.mem_singleton.mp hb]; exact p.lt⟩
  | t a =>
    obtain ⟨its, _, p, _⟩ := I.tuple g
    obtain ⟨o, ho, _⟩ := id p
    exact ⟨_, begins_tuple a its.toArray, p, fun b hb => by rw [List.mem_singleton.mp hb]; exact Heap.lt_size ho⟩
  | s x t => exact ⟨_, begins_text x t, trivial, fun b hb => by cases hb⟩
theorem Kd.start {k : Kd} {it : Addr} {h : Heap} (e : h.get? it = some k.obj) : k.At it 0 h := by
  cases k with
  | l a => exact ⟨_, e, rfl, rfl⟩
  | t a => exact ⟨_, e, rfl, rfl⟩
  | s x t => exact ⟨_, e, rfl, rfl⟩
theorem Kd.At.at {k : Kd} {it : Addr} {i : Nat} {h h' : Heap} (st : k.At it i h) (e : ∀ o, h.get? it = some o → h'.get? it = some o) : k.At it i h' := by
  cases k with
  | l a => exact Heap.IsListIter.at st e
  | t a => exact Heap.IsTupleIter.at st e
  | s x t => obtain ⟨o, ho, r⟩ := st; exact ⟨o, e o ho, r⟩
theorem Kd.At.rec' {k : Kd} {it : Addr} {i : Nat} {h : Heap} (st : k.At it i h) : ∃ o vs, h.get? it = some o ∧ o.data = .fields vs := by
  cases k with
  | l a => obtain ⟨o, ho, _, hd⟩ := st; exact ⟨o, _, ho, hd⟩
  | t a => obtain ⟨o, ho, _, hd⟩ := st; exact ⟨o, _, ho, hd⟩
  | s x t => obtain ⟨o, ho, _, hd⟩ := st; exact ⟨o, _, ho, hd⟩
theorem signs_get {x : Str} {i : Nat} {c : Nat} (h : x.cps[i]? = some c) : (signs x)[i]? = some (V.str (mkS [c])) := by
  unfold signs
  rw [List.getElem?_map, Array.getElem?_toList, h]
  rfl
theorem vals_at : ∀ {xs : List V} {its : List Value} {i : Nat} {u : Value}, Vals xs its → its[i]? = some u → ∃ y, xs[i]? = some y ∧ RelV y u
  | _, _, _, _, .nil, e => by simp at e
  | _, _, 0, _, .cons r _, e => by simp at e; subst e; exact ⟨_, rfl, r⟩
  | _, _, i + 1, _, .cons _ t, e => by
    obtain ⟨y, h1, h2⟩ := vals_at (i := i) t (by simpa using e)
    exact ⟨y, by simpa using h1, h2⟩
/-- what a source draws -/
theorem Kd.draws {X : Cx} {pins : List (Addr × Obj)} {σ : L2.St} {H : Hp} {s : Shared} (I : Inv X pins σ H s) (hc : X.calm = true) {k : Kd} {xs : List V} (g : k.gives X.K H xs) (it : Addr) (hne : it ∉ k.ad) :
    ∃ (P : Nat → Value → Prop) (St : Nat → Heap → Prop), Draws X.prog X.w X.A.in1 it (it :: k.ad) xs.length P St ∧ (∀ i, k.At it i s.heap → St i s.heap) ∧ (∀ i h, St i h → k.At it i h) ∧ ∀ i v, P i v → ∃ y, xs[i]? = some y ∧ RelV y v := by
  have hh : X.A.in1.handled = none := I.ok.hd hc
  cases k with
  | l a =>
    obtain ⟨its, r, p, _⟩ := I.list g
    have hn : a ≠ it := fun e => hne (by rw [e]; exact List.mem_singleton.mpr rfl)
    have D := Draws.list (prog := X.prog) (w := X.w) (A := X.A.in1) hh it a hn its.toArray
    rw [List.size_toArray, ← r.length] at D
    exact ⟨_, _, D, fun i st => ⟨st, p.isList⟩, fun i h st => st.1, fun i v hv => vals_at r (by simpa using hv)⟩
  | t a =>
    obtain ⟨its, r, p, _⟩ := I.tuple g
    have hn : a ≠ it := fun e => hne (by rw [e]; exact List.mem_singleton.mpr rfl)
    have D := Draws.tuple (prog := X.prog) (w := X.w) (A := X.A.in1) hh it a hn its.toArray
    rw [List.size_toArray, ← r.length] at D
    exact ⟨_, _, D, fun i st => ⟨st, p⟩, fun i h st => st.1, fun i v hv => vals_at r (by simpa using hv)⟩
  | s x t =>
    obtain rfl : xs = signs x := g
    have D := Draws.text (prog := X.prog) (w := X.w) (A := X.A.in1) hh it x t
    have e : (signs x).length = x.cps.size := by unfold signs; simp
    rw [← e] at D
    refine ⟨_, _, D, fun i st => st, fun i h st => st, fun i v hv => ?_⟩
    obtain ⟨c, u, h1, rfl⟩ := hv
    exact ⟨_, signs_get h1, u, rfl⟩
theorem Kd.gives_inj {X : Cx} {pins : List (Addr × Obj)} {σ : L2.St} {H : Hp} {s : Shared} (I : Inv X pins σ H s) {k : Kd} {xs ys : List V} (g : k.gives X.K H xs) (g' : k.gives X.K H ys) : xs = ys := by
  cases k with
  | l a => exact I.list_inj g g'
  | t a => exact I.tuple_inj g g'
  | s x t => exact g.trans g'.symm
/-! ### a walk over a source -/
/-- what a walk of items gives -/
def Itk (K : PySem.W.Frag) (k : Kd) : It :=
  ⟨fun i H => ∃ xs x, k.gives K H xs ∧ xs[i]? = some x, fun i H x H' => H' = H ∧ ∀ xs, k.gives K H xs → xs[i]? = some x, fun i H => ∃ xs, k.gives K H xs ∧ xs.length ≤ i⟩
theorem Turn.imp {P : Program} {w : World} {K : PySem.W.Frag} {tg : Expr} {J J' : It} {fp : List Addr} {it : Addr} {tn : Nat → Heap → Prop} (T : Turn P w K tg J fp it tn) (h1 : ∀ i H, J'.go i H → J.go i H) (h2 : ∀ i H x H', J'.go i H → J.yld i H x H' → J'.yld i H x H') (h3 : ∀ i H, J'.stop i H → J.stop i H) : Turn P w K tg J' fp it tn where
  mem := T.mem
  obj := T.obj
  keep := T.keep
  item := fun X hP hw hK hc i pins s σ H E I hf st hg => thn (T.item X hP hw hK hc i pins s σ H E I hf st (h1 i H hg)) fun r s1 ⟨u, hr, q⟩ => ⟨u, hr, thn q fun _ s2 ⟨x, H', I', rx, y, st', f'⟩ => ⟨x, H', I', rx, h2 i H x H' hg y, st', f'⟩⟩
  done := fun X hP hw hK hc i pins s σ H E I hf st hg => T.done X hP hw hK hc i pins s σ H E I hf st (h3 i H hg)
  self := T.self
theorem turn_kd {P : Program} {w : World} {K : PySem.W.Frag} {tg : Expr} (k : Kd) (it : Addr) : Turn P w K tg (Itk K k) [it] it (fun i h => k.At it i h) := by
  cases k with
  | l a => exact Turn.imp (turn_list a it) (fun i H ⟨xs, x, h⟩ => ⟨xs, x, h⟩) (fun i H x H' _ h => h) fun i H h => h
  | t a => exact Turn.imp (turn_tuple a it) (fun i H ⟨xs, x, h⟩ => ⟨xs, x, h⟩) (fun i H x H' _ h => h) fun i H h => h
  | s x t =>
    have e : (signs x).length = x.cps.size := by unfold signs; simp
    refine Turn.imp (turn_str it x t (strIterType x) (by unfold strIterType; split <;> simp)) (fun i H ⟨xs, y, h, hy⟩ => ?_) (fun i H y H' _ h => ?_) fun i H ⟨xs, h, hl⟩ => ?_
    · obtain rfl : xs = signs x := h
      obtain ⟨hlt, _⟩ := List.getElem?_eq_some_iff.mp hy
      rw [e] at hlt
      exact hlt
    · obtain ⟨h1, c, hcx, hy⟩ := h
      refine ⟨h1, fun xs h => ?_⟩
      obtain rfl : xs = signs x := h
      rw [hy]
      exact signs_get hcx
    · obtain rfl : xs = signs x := h
      rw [e] at hl
      exact hl
/-- a source's value -/
inductive Src (K : PySem.W.Frag) (H : Hp) : V → List V → (Kd → Prop) → Prop
  | l {a : Addr} {xs : List V} : SqL K H a xs → Src K H (.ref a) xs fun k => k = .l a
  | t {a : Addr} {xs : List V} : SqT K H a xs → Src K H (.ref a) xs fun k => k = .t a
  | s {x : Str} : Src K H (.str x) (signs x) fun k => ∃ t, k = .s x t
theorem Src.kd {K : PySem.W.Frag} {H : Hp} {v : V} {xs : List V} {C : Kd → Prop} (h : Src K H v xs C) {u : Value} (r : RelV v u) : ∃ k, C k ∧ k.val = u ∧ k.gives K H xs := by
  cases h with
  | l h => cases r; exact ⟨_, rfl, rfl, h⟩
  | t h => cases r; exact ⟨_, rfl, rfl, h⟩
  | s => obtain ⟨t, rfl⟩ := r; exact ⟨_, ⟨t, rfl⟩, rfl, rfl⟩
section
variable {X : Cx} {tg e e2 e3 : Expr} {p pos : Pos}
def iSrc (K : PySem.W.Frag) (te : TE) : TI := fun σ H R => te σ H fun x H1 => ∃ xs C, Src K H1 x xs C ∧ ∀ k, C k → R (Itk K k) H1
theorem pi_src {te : TE} (he : PE X e te) : PI X tg e (iSrc X.K te) := by
  refine ⟨fun pins s σ H R I h => ?_⟩
  refine thn (he.run pins s σ H _ I h) fun v s1 ⟨y, H1, I1, r1, xs, C, sx, q⟩ => ?_
  obtain ⟨k, hk, rfl, g⟩ := sx.kd r1
  obtain ⟨Hs, B, hs, _⟩ := k.begins I1 g
  exact B.iter _ _ _ _ _ _ hs (pi_one (tk := s1.toks) I1 _ (turn_kd k _) (Kd.start (Heap.get?_push_size _ B.free)) (q k hk))
end
/-! ### enumerate -/
def Iek (K : PySem.W.Frag) (k : Kd) : It :=
  ⟨fun i H => ∃ xs x, k.gives K H xs ∧ xs[i]? = some x, fun i H v H' => ∃ T o x, v = .ref T ∧ H T = none ∧ o.dict = none ∧ H' = upd H T (HO.th o [.int (i : Nat), x]) ∧ ∀ xs, k.gives K H xs → xs[i]? = some x, fun i H => ∃ xs, k.gives K H xs ∧ xs.length = i⟩
theorem lt_of_get {h : Heap} {b : Addr} {o : Obj} (e : h.get? b = some o) : b < h.objs.size := Heap.lt_size e
theorem turn_ek {P : Program} {w : World} {K : PySem.W.Frag} {elts : List Expr} {kk : Nat} {tpos : Pos} (k : Kd) {en it : Addr} (hne : en ≠ it) (h1 : en ∉ k.ad) (h2 : it ∉ k.ad) :
    Turn P w K (.Tuple elts kk tpos) (Iek K k) [en, it] en (fun i h => (∃ old, IsEnum h en it ((i : Nat) : Int) old) ∧ k.At it i h) where
  mem := List.mem_cons_self
  obj := fun i h ⟨⟨old, he⟩, hi⟩ b hb => by
    rcases List.mem_cons.mp hb with rfl | hb
    · exact ⟨_, he, nofun⟩
    · rw [List.mem_singleton.mp hb]
      obtain ⟨o, vs, ho, hd⟩ := hi.rec'
      exact ⟨o, ho, fun v q => by rw [hd] at q; cases q⟩
  keep := fun i h h' ⟨⟨old, he⟩, hi⟩ kp => ⟨⟨old, kp en List.mem_cons_self _ he⟩, hi.at fun o q => kp it (by simp) o q⟩
  item := by
    rintro X rfl rfl rfl hc i pins s σ H E I hf ⟨⟨old, he⟩, hi⟩ ⟨xs, x, g, hx⟩
    obtain ⟨Pd, St, D, s1, s2, s3⟩ := k.draws I hc g it h2
    have hlt : i < xs.length := (List.getElem?_eq_some_iff.mp hx).1
    have hel := lt_of_get he
    obtain ⟨oi, vi, hoi, _⟩ := hi.rec'
    have hil := lt_of_get hoi
    refine wpAny_pyNext_enum_itemD D he (s1 i hi) hlt hne (by simp [hne, h1]) fun u h' tk hP ho st' hT hsz hk => ?_
    obtain ⟨y, hy, ru⟩ := s3 i u hP
    obtain rfl : x = y := Option.some.inj (hx.symm.trans hy)
    refine ⟨_, rfl, wpAny_letOwnedTupleGo_enum (s := { s with heap := h', toks := tk + 1 }) ho fun h'' he' sb => ?_⟩
    have hT2 := (sb.2 s.heap.objs.size (Nat.ne_of_gt hel)).trans hT
    have new : ObjOk X.prog X.w (upd H s.heap.objs.size (HO.th (tob [.int i tk, u]) [.int (i : Nat), x])) h'' s.heap.objs.size (HO.th (tob [.int i tk, u]) [.int (i : Nat), x]) :=
      th_ok (by show 2 ≤ sizeLine; decide) (.cons ⟨_, rfl⟩ (.cons ru .nil)) hT2
    have I1 : Inv X pins σ (upd H s.heap.objs.size (HO.th (tob [.int i tk, u]) [.int (i : Nat), x])) { s with heap := h'', toks := tk + 1 } :=
      I.turnedNew (ch := [en, it]) (fun b ob hb q => by
        have n1 : b ≠ en := fun z => hb (by simp [z])
        have n2 : b ≠ it := fun z => hb (by simp [z])
        exact (sb.2 b n1).trans (hk b ob n1 n2 q)) hf (Nat.le_refl _) new
    refine ⟨.ref s.heap.objs.size, _, I1, rfl, ⟨_, _, x, rfl, I.hok.fresh (Nat.le_refl _), rfl, rfl, fun ys hy => by rw [k.gives_inj I hy g]; exact hx⟩, ⟨⟨u, ?_⟩, (s2 _ _ st').at fun o q => (sb.2 it (Ne.symm hne)).trans q⟩, fun b hb => ?_⟩
    · have e1 : ((i + 1 : Nat) : Int) = (i : Int) + 1 := by omega
      rw [e1]; exact he'
    · have hb' : b < s.heap.objs.size := by
        rcases List.mem_cons.mp hb with rfl | hb
        · exact hel
        · rw [List.mem_singleton.mp hb]; exact hil
      rw [upd_ne (Nat.ne_of_lt hb')]
      exact (hf b hb).1
  done := by
    rintro X rfl rfl rfl hc i pins s σ H E I hf ⟨⟨old, he⟩, hi⟩ ⟨xs, g, hl⟩
    obtain ⟨Pd, St, D, s1, s2, s3⟩ := k.draws I hc g it h2
    obtain ⟨f0, f1, f2, f3, f4, f5⟩ := hf it (by simp)
    subst hl
    exact wpAny_pyNext_enum_endD D he (s1 _ hi) fun h' eb => ⟨rfl, I.turned (t' := s.toks) (fun b o hb q => eb b o hb q) f0 f1 f3 f4 f5⟩
  self := fun A i s Q E ⟨⟨_, he⟩, _⟩ h => wpAny_pyIter_enum he h
theorem enum_meets1 {v : Value} {o : Obj} {Hs : Heap → Prop} (B : Begins v o Hs) :
    Meets (Builtin.«enumerate.__new__» ⟨[.type "enumerate", v], []⟩) (fun _ R s => Hs s.heap ∧
      R (.ok (.ret (.ref (s.heap.push o).objs.size))) { s with heap := (s.heap.push o).push { cls := .type "enumerate", data := .fields #[.none, .bool false, .ref s.heap.objs.size, rawInt 0, .none, .none] } }) :=
  .of_wp fun prog w A R s hh => by
    obtain ⟨hp, gn, dr, tk, os⟩ := s
    obtain ⟨hv, h⟩ := hh
    have hsub := sub_enumerate
    have itv : ∀ {A' : Around} {E : Value → Shared → Prop} {Q : Value → Shared → Prop}, Q (.ref hp.objs.size) ⟨hp.push o, gn, dr, tk, os⟩ → wpAny (model prog w) A' (pyIter v) Q E ⟨hp, gn, dr, tk, os⟩ :=
      fun q => B.iter prog w _ _ ⟨hp, gn, dr, tk, os⟩ _ hv q
    wp_walk using itv
    refine wpAny_stack_any fun fr => wpAny_pure ?_
    split
    · rename_i c0 _ _ _ _ _
      cases (c0 == Value.type "enumerate") <;> (wp_walk using itv; exact ⟨_, rfl, h⟩)
    · wp_walk using itv
      exact ⟨_, rfl, h⟩
section
variable {prog : Program} {w : World} {A : Around} {E : Value → Shared → Prop} {s : Shared}
theorem enum_one {v : Value} {o : Obj} {Hs : Heap → Prop} {Q : Value → Shared → Prop} (B : Begins v o Hs) (hv : Hs s.heap)
    (h : ∀ h', IsEnum h' (s.heap.objs.size + 1) s.heap.objs.size 0 .none → h'.get? s.heap.objs.size = some o → (∀ b ob, s.heap.get? b = some ob → h'.get? b = some ob) → Q (.ref (s.heap.objs.size + 1)) { s with heap := h' }) :
    wpAny (model prog w) A (call (.type "enumerate") [v]) Q E s := by
  refine callType_new F.called_enumerate (by decide) (F.typeCall_enumerate_1 _) (F.newCall_enumerate_1 _) (fun obj => F.args_object_init_2 obj _) F.entry_enumerate_new (enum_meets1 B) ⟨hv, ?_⟩
  have z1 : (s.heap.push o).objs.size = s.heap.objs.size + 1 := Heap.size_push ..
  have g1 := Heap.get?_push_size (s.heap.push o) (o := { cls := .type "enumerate", data := .fields #[.none, .bool false, .ref s.heap.objs.size, rawInt 0, .none, .none] }) rfl
  show _ ∧ _
  rw [z1] at g1 ⊢
  exact ⟨⟨_, g1, rfl⟩, h _ g1 (Heap.get?_push_of_some _ (Heap.get?_push_size _ B.free)) fun b ob e => Heap.get?_push_of_some _ (Heap.get?_push_of_some _ e)⟩
end
section
variable {X : Cx} {tg e e2 e3 : Expr} {elts : List Expr} {kk : Nat} {p pos tpos : Pos}
def iEnumS (K : PySem.W.Frag) (ta : TA) : TI := fun σ H R => ta σ H fun vs H1 => ∃ x xs C, vs = [x] ∧ Src K H1 x xs C ∧ ∀ k, C k → R (Iek K k) H1
theorem pi_enumS {ta : TA} (hg : Gl X "enumerate") (hm : X.mg "enumerate" = none) (ha : PA X [e] ta) (hs : starEach [e] X.env = [(false, eval e X.env)] := by rfl) : PI X (.Tuple elts kk tpos) (.Call (.Name "enumerate" p) [e] [] pos) (iEnumS X.K ta) := by
  refine ⟨fun pins s σ H R I h => ?_⟩
  refine Call_ (ld_blt I hg hm boot_enumerate (PyProof.Rows.callWith_type1 (thn (ha.run pos pins s σ H _ I h) fun us s1 ⟨vs, H1, I1, r1, x, xs, C, ev, sx, q⟩ => ?_) hs rfl))
  subst ev
  obtain ⟨u, rfl, ru⟩ := vals1 r1
  obtain ⟨k, hk, rfl, g⟩ := sx.kd ru
  obtain ⟨Hs, B, hst, hlt⟩ := k.begins I1 g
  refine enum_one B hst fun h' he hit kp => wpAny_pyIter_enum he ?_
  have old : ∀ b ∈ k.ad, b ≠ s1.heap.objs.size ∧ b ≠ s1.heap.objs.size + 1 := fun b hb => by
    have z : (b : Nat) < s1.heap.objs.size := hlt b hb
    exact ⟨Nat.ne_of_lt z, Nat.ne_of_lt (Nat.lt_succ_of_lt z)⟩
  refine ⟨s1.heap.objs.size + 1, [s1.heap.objs.size + 1, s1.heap.objs.size], _, _, H1, rfl, I1.kept (t' := s1.toks) kp, turn_ek k (Nat.succ_ne_self _) (fun hm => (old _ hm).2 rfl) (fun hm => (old _ hm).1 rfl), ⟨⟨.none, he⟩, Kd.start hit⟩, fun b hb => ?_, q k hk⟩
  have hle : s1.heap.objs.size ≤ b := by
    rcases List.mem_cons.mp hb with z | z
    · rw [z]; exact Nat.le_succ _
    · rw [List.mem_singleton.mp z]; exact Nat.le_refl _
  exact I1.fpOk hle (I1.hok.fresh hle)
end
end VL
set_option Elab.async false
set_option linter.all false
set_option maxRecDepth 100000
set_option maxHeartbeats 4000000
namespace VL
open PySem PySem.Spec PyProof.Rows L2
/-! ### zip of two, of three sources -/
section
variable {X : Cx} {tg e e2 e3 : Expr} {elts : List Expr} {kk : Nat} {p pos tpos : Pos}
end
end VL
set_option Elab.async false
set_option linter.all false
set_option maxRecDepth 100000
set_option maxHeartbeats 4000000
namespace VL
open PySem PySem.Spec PyProof.Rows L2
/-! ### the items of plain data -/
def signsD (x : Str) : List PyData := x.cps.toList.map fun c => PyData.str (mkS [c])
@[simp] def itemsOf : PyData → Option (List PyData)
  | .list xs => some xs
  | .tuple xs => some xs
  | .str x => some (signsD x)
  | _ => none
def enumP (xs : List PyData) : List PyData := xs.zipIdx.map fun p => .tuple [.int (p.2 : Nat), p.1]
def zip2P (xs ys : List PyData) : List PyData := (xs.zip ys).map fun p => .tuple [p.1, p.2]
def zip3P (xs ys zs : List PyData) : List PyData := (xs.zip (ys.zip zs)).map fun p => .tuple [p.1, p.2.1, p.2.2]
def rangeP (i : Int) (n : Nat) : List PyData := (List.range n).map fun k => .int (i + (k : Nat))
theorem enumP_get {xs : List PyData} {k : Nat} {d : PyData} (h : (enumP xs)[k]? = some d) : ∃ x, xs[k]? = some x ∧ d = .tuple [.int (k : Nat), x] := by
  unfold enumP at h
  rw [List.getElem?_map, List.getElem?_zipIdx] at h
  cases e : xs[k]? with
  | none => rw [e] at h; cases h
  | some x => rw [e] at h; cases h; exact ⟨x, rfl, by simp⟩
theorem rangeP_get {i : Int} {n k : Nat} {d : PyData} (h : (rangeP i n)[k]? = some d) : k < n ∧ d = .int (i + (k : Nat)) := by
  unfold rangeP at h
  rw [List.getElem?_map] at h
  by_cases hk : k < n
  · rw [List.getElem?_range hk] at h; cases h; exact ⟨hk, rfl⟩
  · rw [List.getElem?_eq_none (by simp; omega)] at h; cases h
/-! ### the walks, over data -/
section
variable {b : Bg} {Y Z : Addr → Prop} {H : Hp} {K : PySem.W.Frag}
theorem rqs_signs {x : Str} : Rqs Z H (signs x) (signsD x) := by
  unfold signs signsD
  induction x.cps.toList with
  | nil => exact .nil
  | cons c l ih => exact .cons (.str _) ih
/-- a source: what stands there, and stays -/
structure SrcD (K : PySem.W.Frag) (Y Z : Addr → Prop) (H : Hp) (v : V) (xs : List PyData) (vs : List V) (C : Kd → Prop) : Prop where
  src : Src K H v vs C
  rq : Rqs Z H vs xs
  stay : ∀ k, C k → ∀ H2 : Hp, (∀ a o, H a = some o → ¬ Y a → H2 a = some o) → k.gives K H2 vs
theorem srcD {v : V} {p : PyData} {xs : List PyData} (r : Rb b Z H v (.py p)) (hn : ∀ a, v = .ref a → ¬ Y a) (e : itemsOf p = some xs) : ∃ vs C, SrcD K Y Z H v xs vs C := by
  cases p with
  | list ds =>
    cases e
    obtain ⟨a, us, rfl, ha, q⟩ := r.list
    exact ⟨us, _, .l (SqL.of ha), q, fun k hk H2 h2 => by rw [hk]; exact SqL.of (h2 a _ ha (hn a rfl))⟩
  | tuple ds =>
    cases e
    obtain ⟨a, o, us, rfl, ha, ho, na, q⟩ := r.tuple
    exact ⟨us, _, .t (SqT.th ha), q, fun k hk H2 h2 => by rw [hk]; exact SqT.th (h2 a _ ha (hn a rfl))⟩
  | str x =>
    cases e
    have ev := r.str
    subst ev
    exact ⟨signs x, _, .s, rqs_signs, fun k hk H2 h2 => by obtain ⟨t, rfl⟩ := hk; rfl⟩
  | _ => cases e
/-- what a source has at k -/
theorem SrcD.at {v : V} {xs : List PyData} {vs : List V} {C : Kd → Prop} (s : SrcD K Y Z H v xs vs C) (hY : ∀ a, ¬ Z a → ¬ Y a) {k : Nat} {d : PyData} (h : xs[k]? = some d) {H2 : Hp} (h2 : ∀ a o, H a = some o → ¬ Y a → H2 a = some o) :
    ∃ x, vs[k]? = some x ∧ ∀ Z2 : Addr → Prop, (∀ a, Z2 a → Z a ∨ H a = none) → Rq Z2 H2 x d := by
  obtain ⟨x, hx, r⟩ := s.rq.get h
  exact ⟨x, hx, fun Z2 hz => r.mono hz fun a o e n => h2 a o e (hY a n)⟩
theorem Rq.new2 {Z2 : Addr → Prop} {H2 : Hp} {T : Addr} {o : Obj} {vs : List V} {ds : List PyData} (hT : H2 T = none) (ho : o.dict = none) (hz : ∀ a, Z2 a → H2 a ≠ none) (r : Rqs Z2 H2 vs ds) : Rq Z2 (upd H2 T (HO.th o vs)) (.ref T) (.tuple ds) :=
  .tup upd_same ho (fun z => hz T z hT) (r.up hT)
theorem wk_src {v : V} {xs : List PyData} {vs : List V} {C : Kd → Prop} (s : SrcD K Y Z H v xs vs C) (hY : ∀ a, ¬ Z a → ¬ Y a) {k : Kd} (hk : C k) : Wk b Y Z H (Itk K k) (xs.map D.py) where
  go := fun i d H2 hd h2 g => by
    rw [List.getElem?_map] at hd
    cases e : xs[i]? with
    | none => rw [e] at hd; cases hd
    | some p =>
      rw [e] at hd; cases hd
      obtain ⟨x, hx, r⟩ := s.at hY e h2
      have gv := s.stay k hk H2 h2
      refine ⟨⟨vs, x, gv, hx⟩, fun v H3 y => ?_⟩
      obtain ⟨eH, y⟩ := y
      subst eH
      have : x = v := Option.some.inj (hx.symm.trans (y vs gv))
      subst this
      exact ⟨Ex.refl, g, fun Z2 hz _ => r Z2 hz⟩
  stop := fun i H2 hl h2 => ⟨vs, s.stay k hk H2 h2, by rw [s.rq.length, ← hl, List.length_map]; exact Nat.le_refl _⟩
theorem wk_enum {v : V} {xs : List PyData} {vs : List V} {C : Kd → Prop} (s : SrcD K Y Z H v xs vs C) (hY : ∀ a, ¬ Z a → ¬ Y a) {k : Kd} (hk : C k) : Wk b Y Z H (Iek K k) ((enumP xs).map D.py) where
  go := fun i d H2 hd h2 g => by
    rw [List.getElem?_map] at hd
    cases e : (enumP xs)[i]? with
    | none => rw [e] at hd; cases hd
    | some p =>
      rw [e] at hd; cases hd
      obtain ⟨q, hq, rfl⟩ := enumP_get e
      obtain ⟨x, hx, r⟩ := s.at hY hq h2
      have gv := s.stay k hk H2 h2
      refine ⟨⟨vs, x, gv, hx⟩, fun v H3 y => ?_⟩
      obtain ⟨T, o, x', rfl, hT, ho, eH, y⟩ := y
      subst eH
      have : x = x' := Option.some.inj (hx.symm.trans (y vs gv))
      subst this
      exact ⟨Ex.new hT, Bg.new g hT, fun Z2 hz h3 => Rq.new2 hT ho h3 (.cons (.int _) (.cons (r Z2 hz) .nil))⟩
  stop := fun i H2 hl h2 => ⟨vs, s.stay k hk H2 h2, by rw [s.rq.length, ← hl]; simp [enumP]⟩
theorem wk_range {lo : Int} {n : Nat} : Wk b Y Z H (Itr lo n) ((rangeP lo n).map D.py) where
  go := fun i d H2 hd h2 g => by
    rw [List.getElem?_map] at hd
    cases e : (rangeP lo n)[i]? with
    | none => rw [e] at hd; cases hd
    | some p =>
      rw [e] at hd; cases hd
      obtain ⟨hlt, rfl⟩ := rangeP_get e
      refine ⟨hlt, fun v H3 y => ?_⟩
      obtain ⟨eH, y⟩ := y
      subst eH y
      exact ⟨Ex.refl, g, fun Z2 hz _ => .int _⟩
  stop := fun i H2 hl h2 => by
    have e : n = i := by rw [← hl]; simp [rangeP]
    rw [e]
    exact Nat.le_refl _
end
/-! ### iterators as judgements -/
@[simp] def asO {α : Type} : Option α → (α → Prop) → Prop
  | some a, Q => Q a
  | none, _ => False
theorem asO_ex {α : Type} : ∀ {o : Option α} {Q : α → Prop}, asO o Q → ∃ a, o = some a ∧ Q a
  | some a, _, h => ⟨a, rfl, h⟩
@[simp] def asS : D → (List D → Prop) → Prop
  | .py p, Q => asO (itemsOf p) fun xs => Q (xs.map D.py)
  | _, _ => False
@[simp] def asEn : List D → (List D → Prop) → Prop
  | [.py p], Q => asO (itemsOf p) fun xs => Q ((enumP xs).map D.py)
  | _, _ => False
@[simp] def asZ2 : List D → (List D → Prop) → Prop
  | [.py p, .py q], Q => asO (itemsOf p) fun xs => asO (itemsOf q) fun ys => Q ((zip2P xs ys).map D.py)
  | _, _ => False
@[simp] def asZ3 : List D → (List D → Prop) → Prop
  | [.py p, .py q, .py r], Q => asO (itemsOf p) fun xs => asO (itemsOf q) fun ys => asO (itemsOf r) fun zs => Q ((zip3P xs ys zs).map D.py)
  | _, _ => False
abbrev small62 (i : Int) : Prop := -(2 ^ 62) ≤ i ∧ i < 2 ^ 62
@[simp] theorem small62_nat (n : Nat) : small62 (n : Int) ↔ n < 4611686018427387904 := by unfold small62; omega
@[simp] def asR1 : List D → (List D → Prop) → Prop
  | [.py (.int i)], Q => small62 i ∧ Q ((rangeP 0 i.toNat).map D.py)
  | _, _ => False
@[simp] def asR2 : List D → (List D → Prop) → Prop
  | [.py (.int i), .py (.int j)], Q => (small62 i ∧ small62 j) ∧ Q ((rangeP i (j - i).toNat).map D.py)
  | _, _ => False
theorem asS_ex : ∀ {d : D} {Q : List D → Prop}, asS d Q → ∃ p xs, d = .py p ∧ itemsOf p = some xs ∧ Q (xs.map D.py)
  | .py p, _, h => let ⟨xs, e, q⟩ := asO_ex h; ⟨p, xs, rfl, e, q⟩
theorem asEn_ex : ∀ {d : List D} {Q : List D → Prop}, asEn d Q → ∃ p xs, d = [.py p] ∧ itemsOf p = some xs ∧ Q ((enumP xs).map D.py)
  | [.py p], _, h => let ⟨xs, e, q⟩ := asO_ex h; ⟨p, xs, rfl, e, q⟩
theorem asR1_ex : ∀ {d : List D} {Q : List D → Prop}, asR1 d Q → ∃ i, d = [.py (.int i)] ∧ small62 i ∧ Q ((rangeP 0 i.toNat).map D.py)
  | [.py (.int i)], _, h => ⟨i, rfl, h⟩
@[simp] def iS (t : VT) : VIt := fun ρ Q E => t ρ (fun d => asS d Q) E
@[simp] def iEn (t : VA) : VIt := fun ρ Q E => t ρ (fun d => asEn d Q) E
@[simp] def iZ2 (t : VA) : VIt := fun ρ Q E => t ρ (fun d => asZ2 d Q) E
@[simp] def iZ3 (t : VA) : VIt := fun ρ Q E => t ρ (fun d => asZ3 d Q) E
@[simp] def iR1 (t : VA) : VIt := fun ρ Q E => t ρ (fun d => asR1 d Q) E
@[simp] def iR2 (t : VA) : VIt := fun ρ Q E => t ρ (fun d => asR2 d Q) E
theorem pi_mono {X : Cx} {tg iter : Expr} {t t' : TI} (h : PI X tg iter t) (m : ∀ σ H R, t' σ H R → t σ H R) : PI X tg iter t' := ⟨fun pins s σ H R I q => h.run pins s σ H R I (m σ H R q)⟩
section
variable {X : Cx} {b : Bg} {W : WX} {tg e e1 e2 e3 : Expr} {elts : List Expr} {kk : Nat} {t t1 t2 t3 : VT} {p pos tpos : Pos}
theorem Rp.ref {Z : Addr → Prop} {H : Hp} {v : V} {p : PyData} (r : Rp b Z H v (.py p)) : ∀ a, v = .ref a → ¬ Z a := fun a e => by
  subst e
  cases r <;> assumption
theorem Rb.ref {Z : Addr → Prop} {H : Hp} {v : V} {p : PyData} (g : Gd b Z H) (r : Rb b Z H v (.py p)) : ∀ a, v = .ref a → ¬ b.B a := fun a e => by
  rcases r with r | ⟨c, e1, n, _⟩
  · exact fun z => Rp.ref r a e (g.zb a z)
  · rw [e] at e1; cases e1; exact n
/-- a loop -/
theorem vi_src (h : VE X b W e t) : VI X b W tg e (iS t) := pi_mono (pi_src h) fun σ H R ⟨Zo, Z, ρ, Qd, Ed, v, q, l, m⟩ =>
  ⟨Zo, Z, ρ, _, Ed, v, q, fun x H1 d x1 g1 r1 hh => by
    obtain ⟨p, xs, ed, ei, q1⟩ := asS_ex hh
    subst ed
    obtain ⟨vs, C, s⟩ := srcD (K := X.K) (Y := Z) (.inl r1) (Rp.ref r1) ei
    exact ⟨vs, C, s.src, fun k hk => l _ H1 _ x1 g1 (wk_src s (fun _ n => n) hk) q1⟩, m⟩
theorem vib_src (h : VX X b W e t) : VIb X b W tg e (iS t) := pi_mono (pi_src h) fun σ H R ⟨Zo, Z, ρ, Qd, Ed, v, q, l, m⟩ =>
  ⟨Zo, Z, ρ, _, Ed, v, q, fun x H1 d x1 g1 r1 hh => by
    obtain ⟨p, xs, ed, ei, q1⟩ := asS_ex hh
    subst ed
    have gd := (v.ex x1 g1).gd
    obtain ⟨vs, C, s⟩ := srcD (K := X.K) (Y := b.B) r1 (Rb.ref gd r1) ei
    exact ⟨vs, C, s.src, fun k hk => l _ H1 _ x1 g1 (wk_src s (fun _ n z => n (gd.zb _ z)) hk) q1⟩, m⟩
theorem rbs1 {Z : Addr → Prop} {H : Hp} {v : List V} {d : D} (r : Rps b Z H v [d]) : ∃ x, v = [x] ∧ Rp b Z H x d := by
  cases r with
  | cons r t => cases t; exact ⟨_, rfl, r⟩
theorem rbs2 {Z : Addr → Prop} {H : Hp} {v : List V} {d d2 : D} (r : Rps b Z H v [d, d2]) : ∃ x y, v = [x, y] ∧ Rp b Z H x d ∧ Rp b Z H y d2 := by
  cases r with
  | cons r t => obtain ⟨y, rfl, r2⟩ := rbs1 t; exact ⟨_, y, rfl, r, r2⟩
variable {ta : VA}
theorem vib_enum (hg : Gl X "enumerate") (hm : X.mg "enumerate" = none) (h : VXs X b W [e] ta) (hs : starEach [e] X.env = [(false, eval e X.env)] := by rfl) : VIb X b W (.Tuple elts kk tpos) (.Call (.Name "enumerate" p) [e] [] pos) (iEn ta) :=
  pi_mono (pi_enumS hg hm h hs) fun σ H R ⟨Zo, Z, ρ, Qd, Ed, v, q, l, m⟩ =>
    ⟨Zo, Z, ρ, _, Ed, v, q, fun x H1 d x1 g1 r1 hh => by
      obtain ⟨p, xs, ed, ei, q1⟩ := asEn_ex hh
      subst ed
      have gd := (v.ex x1 g1).gd
      obtain ⟨w, rfl, r2⟩ := Rbs.one r1
      obtain ⟨vs, C, s⟩ := srcD (K := X.K) (Y := b.B) r2 (Rb.ref gd r2) ei
      exact ⟨w, vs, C, rfl, s.src, fun k hk => l _ H1 _ x1 g1 (wk_enum s (fun _ n z => n (gd.zb _ z)) hk) q1⟩, m⟩
theorem pi_rng1 {Yf : (Addr → Prop) → Addr → Prop} (hg : Gl X "range") (hm : X.mg "range" = none) (h : VXs X b W [e] ta) (hs : starEach [e] X.env = [(false, eval e X.env)] := by rfl) : PI X tg (.Call (.Name "range" p) [e] [] pos) (LI b W Yf (iR1 ta)) :=
  pi_mono (pi_range1 hg hm h hs) fun σ H R ⟨Zo, Z, ρ, Qd, Ed, v, q, l, m⟩ =>
    ⟨Zo, Z, ρ, _, Ed, v, q, fun x H1 d x1 g1 r1 hh => by
      obtain ⟨i, ed, ⟨i1, i2⟩, q1⟩ := asR1_ex hh
      subst ed
      obtain ⟨w, rfl, r2⟩ := Rbs.one r1
      exact ⟨i, by rw [r2.int], i1, i2, l _ H1 _ x1 g1 wk_range q1⟩, m⟩
theorem vi_range1 (hg : Gl X "range") (hm : X.mg "range" = none) (h : VXs X b W [e] ta) (hs : starEach [e] X.env = [(false, eval e X.env)] := by rfl) : VI X b W tg (.Call (.Name "range" p) [e] [] pos) (iR1 ta) := pi_rng1 hg hm h hs
theorem vib_range1 (hg : Gl X "range") (hm : X.mg "range" = none) (h : VXs X b W [e] ta) (hs : starEach [e] X.env = [(false, eval e X.env)] := by rfl) : VIb X b W tg (.Call (.Name "range" p) [e] [] pos) (iR1 ta) := pi_rng1 hg hm h hs
end
end VL
set_option Elab.async false
set_option linter.all false
set_option maxRecDepth 100000
set_option maxHeartbeats 4000000
namespace VL
open PySem PySem.Spec PyProof.Rows L2
/-! ### from a loop's start on -/
section
variable {b : Bg} {W : WX} {H0 : Hp} {M Zo Z Z' : Addr → Prop} {σ σ' : L2.St} {H H' : Hp} {ρ ρ' : VEnv} {De : VEnds} {Dn : Ends}
/-- what a loop may write: its def's own objects -/
abbrev Mo (Zo Z : Addr → Prop) : Addr → Prop := fun a => Z a ∧ ¬ Zo a
theorem VOk.here (v : VOk b Zo Z σ H ρ) : FOk b H (Mo Zo Z) Zo Z σ H ρ :=
  ⟨v, fun _ _ e _ _ => e, fun i d a h1 h2 => by
    obtain ⟨c, h3, h4, h5, _⟩ := v.own i d h1
    rw [h2] at h3; cases h3
    exact .inl ⟨h4, h5⟩⟩
theorem FOk.mine (f : FOk b H0 M Zo Z σ H ρ) {a : Addr} (h : Mo Zo Z a) : M a ∨ H0 a = none := by
  rcases f.v.zi a h.1 with z | ⟨i, d, h1, h2⟩
  · exact absurd z h.2
  · exact f.fr i d a h1 h2
theorem FOk.extBack (f : FOk b H0 M Zo Z σ H ρ) (x : ∀ a o, H a = some o → ¬ b.B a → ¬ Mo Zo Z a → H' a = some o) : ∀ a o, H0 a = some o → ¬ b.B a → ¬ M a → H' a = some o := fun a o e nb nm =>
  x a o (f.ext a o e nb nm) nb fun mo => by
    rcases f.mine mo with z | z
    · exact nm z
    · rw [e] at z; cases z
theorem FOk.back (f : FOk b H0 M Zo Z σ H ρ) (f' : FOk b H (Mo Zo Z) Zo Z' σ' H' ρ') : FOk b H0 M Zo Z' σ' H' ρ' :=
  ⟨f'.v, f.extBack f'.ext, fun i d a h1 h2 => by
    rcases f'.fr i d a h1 h2 with z | z
    · exact f.mine z
    · cases q : H0 a with
      | none => exact .inr rfl
      | some o =>
        by_cases hb : b.B a
        · exact absurd z (b.dom _ _ f.v.g hb)
        · by_cases hm : M a
          · exact .inl hm
          · rw [f.ext a o q hb hm] at z; cases z⟩
theorem FOk.frBack (f : FOk b H0 M Zo Z σ H ρ) {a : Addr} (h : Mo Zo Z a ∨ H a = none) : M a ∨ H0 a = none := by
  rcases h with z | z
  · exact f.mine z
  · cases q : H0 a with
    | none => exact .inr rfl
    | some o =>
      by_cases hb : b.B a
      · exact absurd z (b.dom _ _ f.v.g hb)
      · by_cases hm : M a
        · exact .inl hm
        · rw [f.ext a o q hb hm] at z; cases z
theorem FOk.rtBack (f : FOk b H0 M Zo Z σ H ρ) {H' : Hp} {Z' : Addr → Prop} {v : V} {r : Rt} (k : RtOk b H (Mo Zo Z) Zo Z' H' v r) : RtOk b H0 M Zo Z' H' v r := by
  cases r with
  | val d => exact k
  | nw d => obtain ⟨x, e, h, k⟩ := k; exact ⟨x, e, f.frBack h, k⟩
  | nwL d ds => obtain ⟨l, x, ws, e, h1, h2, h3, h4, h5, k⟩ := k; exact ⟨l, x, ws, e, h1, f.frBack h2, h3, h4, f.frBack h5, k⟩
theorem Lk.here (l : Lk b W H0 M Zo De Dn) (f : FOk b H0 M Zo Z σ H ρ) : Lk b W H (Mo Zo Z) Zo De Dn where
  nx := fun Z' σ' H' ρ' f' q => l.nx Z' σ' H' ρ' (f.back f') q
  rt := fun v H' d x g r q => l.rt v H' d (f.extBack x) g r q
  bk := fun Z' σ' H' ρ' f' q => l.bk Z' σ' H' ρ' (f.back f') q
  ct := fun Z' σ' H' ρ' f' q => l.ct Z' σ' H' ρ' (f.back f') q
  ex := fun c x Z' σ' H' ρ' er f' r q => l.ex c x Z' σ' H' ρ' er (f.back f') r q
  ro := fun v Z' σ' H' ρ' r f' k q => l.ro v Z' σ' H' ρ' r (f.back f') (f.rtBack k) q
/-- what is owned later was owned at the start, or is new -/
theorem FOk.young (f : FOk b H (Mo Zo Z) Zo Z' σ' H' ρ') (v : VOk b Zo Z σ H ρ) : ∀ a, Z' a → Z a ∨ H a = none := fun a z => by
  rcases f.v.zi a z with z | ⟨i, d, h1, h2⟩
  · exact .inl (v.zo a z)
  · exact (f.fr i d a h1 h2).imp (·.1) id
end
/-! ### for -/
@[simp] def forGo (g : VTg) (tb : VS) : List D → VEnv → VEnds → Prop
  | [], ρ, De => De.nx ρ
  | d :: ds, ρ, De => g d ρ fun ρ1 => tb ρ1 { De with nx := fun ρ2 => forGo g tb ds ρ2 De, ct := fun ρ2 => forGo g tb ds ρ2 De, bk := De.nx }
@[simp] def sFor (ti : VIt) (g : VTg) (tb : VS) : VS := fun ρ De => ti ρ (fun ds => forGo g tb ds ρ De) (De.ex ρ)
section
variable {X : Cx} {b : Bg} {W : WX} {tg iter : Expr} {body : List Stmt} {ti : VIt} {js : List Nat} {g : VTg} {tb : VS} {pos : Pos}
theorem vs_for (hp : PassesOwn (model X.prog X.w) X.A X.env X.xe) (hc : X.calm = true) (hi : VI X b W tg iter ti) (hg : VG X b tg js g) (hb : VSs X b W body tb)
    (hs : ∀ x, foldedSetIterable iter X.env x = pure x := by intro _; rfl) : VSt X b W (.For tg iter body [] pos) (sFor ti g tb) :=
  ps_mono (ps_for hp hc hi hg hb hs) fun Dn σ H ⟨H0, M, Zo, Z, ρ, De, f, q, l⟩ => ⟨Zo, Z, ρ, _, _, f.v, q, fun J H1 ds x1 g1 wk q1 => by
    have f1 := f.ex x1 g1
    have l1 := l.here f1
    have hZ : ∀ a, ¬ Z a → ¬ b.B a ∧ ¬ Mo Zo Z a := fun a n => ⟨fun z => n (f.v.zo _ (f.v.zb a z)), fun z => n z.1⟩
    refine ⟨fun i m σ' H' => m = ds.length - i ∧ i ≤ ds.length ∧ ∃ Z' ρ', FOk b H1 (Mo Zo Z) Zo Z' σ' H' ρ' ∧ forGo g tb (ds.drop i) ρ' De, ⟨ds.length, by simp, Nat.zero_le _, Z, ρ, f1.v.here, q1⟩, ?_⟩
    rintro i m σ' H' ⟨rfl, hi, Z', ρ', f', q'⟩
    have st : ∀ a o, H1 a = some o → ¬ Z a → H' a = some o := fun a o e n => f'.ext a o e (hZ a n).1 (hZ a n).2
    by_cases hlt : i < ds.length
    · rw [List.drop_eq_getElem_cons hlt] at q'
      obtain ⟨go, yl⟩ := wk.go i ds[i] H' (List.getElem?_eq_getElem hlt) st f'.v.g
      refine .inr ⟨go, fun σ2 H2 => ∃ Z2 ρ2, FOk b H1 (Mo Zo Z) Zo Z2 σ2 H2 ρ2 ∧ forGo g tb (ds.drop (i + 1)) ρ2 De, fun σ2 H2 h2 => ⟨ds.length - (i + 1), by omega, rfl, hlt, h2⟩, fun v H3 y => ?_⟩
      obtain ⟨x3, g3, r3⟩ := yl v H3 y
      refine ⟨H1, Mo Zo Z, Zo, Z', ρ', _, _, f'.ex x3 g3, r3 Z' (f'.young f1.v) f'.v.dom, q', fun Z4 σ4 ρ4 _ _ f4 q4 => ?_⟩
      exact ⟨H1, Mo Zo Z, Zo, Z4, ρ4, _, f4, q4, ⟨fun Z5 σ5 H5 ρ5 f5 q5 => ⟨Z5, ρ5, f5, q5⟩, l1.rt, fun Z5 σ5 H5 ρ5 f5 q5 => l1.nx Z5 σ5 H5 ρ5 f5 q5, fun Z5 σ5 H5 ρ5 f5 q5 => ⟨Z5, ρ5, f5, q5⟩, l1.ex, l1.ro⟩⟩
    · have e : ds.length = i := by omega
      rw [List.drop_eq_nil_of_le (by omega)] at q'
      exact .inl ⟨wk.stop i H' e st, l1.nx Z' σ' H' ρ' f' q'⟩, l.er f⟩
/-! ### while -/
end
/-! ### list comprehensions -/
abbrev noW : WX := fun _ _ _ _ => False
abbrev noE : Er → Prop := fun _ => False
@[simp] def wipeE (ρ : VEnv) : List Nat → VEnv
  | [] => ρ
  | v :: vs => (wipeE ρ vs).set v .un
@[simp] def wYes : VB := fun _ Q _ => Q true
@[simp] def lcGo (g : VTg) (tt : VB) (te : VT) (Q : D → Prop) : List D → List PyData → VEnv → Prop
  | [], acc, _ => Q (.py (.list acc))
  | d :: ds, acc, ρ => g d ρ fun ρ1 => tt ρ1 (fun k => if k = true then te ρ1 (fun y => ∃ p, y = .py p ∧ acc.length < sizeLine ∧ lcGo g tt te Q ds (acc ++ [p]) ρ) noE else lcGo g tt te Q ds acc ρ) noE
/-- no slot of these is owned -/
@[simp] def noOwn (ρ : VEnv) (vs : List Nat) : Prop := ∀ i ∈ vs, ∀ d, ρ[i]? ≠ some (.own d)
@[simp] def vLc (vs : List Nat) (ti : VIt) (g : VTg) (tt : VB) (te : VT) : VT := fun ρ Q E => noOwn ρ vs ∧ ti ρ (fun ds => lcGo g tt te Q ds [] (wipeE ρ vs)) E
theorem wipeE_len (ρ : VEnv) : ∀ vs : List Nat, (wipeE ρ vs).length = ρ.length
  | [] => rfl
  | v :: vs => by unfold wipeE; rw [List.length_set, wipeE_len ρ vs]
theorem wipeE_in {ρ : VEnv} {i : Nat} {s : Slot} : ∀ {vs : List Nat}, (wipeE ρ vs)[i]? = some s → (s = .un ∧ i ∈ vs) ∨ (ρ[i]? = some s ∧ i ∉ vs)
  | [], h => .inr ⟨h, by simp⟩
  | v :: vs, h => by
    unfold wipeE at h
    by_cases hi : v = i
    · subst hi
      by_cases hv : v < (wipeE ρ vs).length
      · rw [List.getElem?_set_self hv] at h; cases h; exact .inl ⟨rfl, List.mem_cons_self⟩
      · rw [List.getElem?_eq_none (by rw [List.length_set]; omega)] at h; cases h
    · rw [List.getElem?_set_ne hi] at h
      rcases wipeE_in h with ⟨h1, h2⟩ | ⟨h1, h2⟩
      · exact .inl ⟨h1, List.mem_cons_of_mem _ h2⟩
      · exact .inr ⟨h1, fun m => by
          rcases List.mem_cons.mp m with e | m
          · exact hi e.symm
          · exact h2 m⟩
theorem wipeE_out {ρ : VEnv} {i : Nat} {s : Slot} (h : ρ[i]? = some s) : ∀ {vs : List Nat}, i ∉ vs → (wipeE ρ vs)[i]? = some s
  | [], _ => h
  | v :: vs, hn => by
    unfold wipeE
    rw [List.getElem?_set_ne (fun e => hn (by rw [e]; exact List.mem_cons_self))]
    exact wipeE_out h fun m => hn (List.mem_cons_of_mem _ m)
theorem wipe_same {σ σ' : L2.St} {ρ ρ' : VEnv} {js : List Nat} (s : Same js σ σ' ρ ρ') : ∀ {vs : List Nat}, (∀ j ∈ js, j ∈ vs) → wipe σ' vs = wipe σ vs := fun {vs} h => by
  have wo : ∀ (τ : L2.St) (j : Nat) (vs : List Nat), j ∉ vs → (wipe τ vs)[j]? = τ[j]? := fun τ j vs => by
    induction vs with
    | nil => intro _; rfl
    | cons v vs ih =>
      intro hn
      show ((wipe τ vs).set v none)[j]? = _
      rw [List.getElem?_set_ne (fun e => hn (by rw [e]; exact List.mem_cons_self))]
      exact ih fun m => hn (List.mem_cons_of_mem _ m)
  have wi : ∀ (τ : L2.St) (j : Nat) (vs : List Nat), j ∈ vs → (wipe τ vs)[j]? = if j < τ.length then some none else none := fun τ j vs => by
    induction vs with
    | nil => intro h; cases h
    | cons v vs ih =>
      intro hm
      show ((wipe τ vs).set v none)[j]? = _
      by_cases e : v = j
      · subst e
        by_cases hl : v < τ.length
        · rw [List.getElem?_set_self (by rw [wipe_length]; exact hl), if_pos hl]
        · rw [List.getElem?_eq_none (by rw [List.length_set, wipe_length]; omega), if_neg hl]
      · rw [List.getElem?_set_ne e]
        exact ih ((List.mem_cons.mp hm).resolve_left fun q => e q.symm)
  apply List.ext_getElem?
  intro j
  by_cases hj : j ∈ vs
  · rw [wi σ' j vs hj, wi σ j vs hj, s.len]
  · rw [wo σ' j vs hj, wo σ j vs hj]
    exact s.out j fun m => hj (h j m)
theorem VOk.wiped {b : Bg} {Zo Z : Addr → Prop} {σ : L2.St} {H : Hp} {ρ : VEnv} (v : VOk b Zo Z σ H ρ) {vs : List Nat} (hn : noOwn ρ vs) : VOk b Zo Z (wipe σ vs) H (wipeE ρ vs) where
  g := v.g
  zb := v.zb
  zo := v.zo
  dom := v.dom
  zi := fun a z => by
    rcases v.zi a z with z | ⟨i, d, h1, h2⟩
    · exact .inl z
    · have hi : i ∉ vs := fun m => hn i m d h1
      exact .inr ⟨i, d, wipeE_out h1 hi, by rw [wipe_out hi]; exact h2⟩
  own := fun i d h => by
    rcases wipeE_in h with ⟨h1, _⟩ | ⟨h1, hi⟩
    · cases h1
    · obtain ⟨a, h2, h3⟩ := v.own i d h1
      exact ⟨a, by rw [wipe_out hi]; exact h2, h3⟩
  inj := fun i j d e a h1 h2 h3 h4 => by
    rcases wipeE_in h1 with ⟨q, _⟩ | ⟨h1, hi⟩
    · cases q
    · rcases wipeE_in h2 with ⟨q, _⟩ | ⟨h2, hj⟩
      · cases q
      · rw [wipe_out hi] at h3
        rw [wipe_out hj] at h4
        exact v.inj i j d e a h1 h2 h3 h4
  shr := fun i d h => by
    rcases wipeE_in h with ⟨h1, _⟩ | ⟨h1, hi⟩
    · cases h1
    · obtain ⟨u, h2, h3⟩ := v.shr i d h1
      exact ⟨u, by rw [wipe_out hi]; exact h2, h3⟩
  len := by rw [wipeE_len, wipe_length]; exact v.len
section
variable {b : Bg} {Z : Addr → Prop} {H : Hp} {a : Addr}
/-- one more address to be avoided: nothing that is known reaches a new one -/
theorem Rp.apart (ha : H a = none) {o : HO} {v : V} {d : D} (r : Rp b Z H v d) : Rp b (fun c => Z c ∨ c = a) (upd H a o) v d :=
  r.mono (fun c z => z.imp id fun e => by rw [e]; exact ha) fun c u e _ => by rw [upd_ne (ne_of_none e ha)]; exact e
theorem Ow.apart (ha : H a = none) {o : HO} {c : Addr} {d : D} (r : Ow b Z H c d) : Ow b (fun c => Z c ∨ c = a) (upd H a o) c d :=
  r.mono (fun c z => z.imp id fun e => by rw [e]; exact ha) (fun c u e _ => by rw [upd_ne (ne_of_none e ha)]; exact e) fun u e => by rw [upd_ne (ne_of_none e ha)]; exact e
theorem VOk.apart {Zo : Addr → Prop} {σ : L2.St} {ρ : VEnv} (v : VOk b Zo Z σ H ρ) (ha : H a = none) {o : HO} : VOk b (fun c => Zo c ∨ c = a) (fun c => Z c ∨ c = a) σ (upd H a o) ρ where
  g := Bg.new v.g ha
  zb := fun c z => .inl (v.zb c z)
  zo := fun c z => z.imp (v.zo c) id
  dom := fun c z => by
    by_cases e : c = a
    · rw [e, upd_same]; simp
    · rw [upd_ne e]; exact v.dom c (z.resolve_right e)
  zi := fun c z => z.elim (fun z => (v.zi c z).imp .inl id) fun e => .inl (.inr e)
  own := fun i d e => by
    obtain ⟨c, h1, h2, h3, h4⟩ := v.own i d e
    exact ⟨c, h1, .inl h2, fun z => z.elim h3 fun q => v.dom c h2 (by rw [q]; exact ha), h4.apart ha⟩
  inj := v.inj
  shr := fun i d e => by
    obtain ⟨u, h1, h2⟩ := v.shr i d e
    exact ⟨u, h1, h2.apart ha⟩
  len := v.len
/-- an object that is an outer one's is written: nothing here reaches it -/
theorem VOk.outer {Zo : Addr → Prop} {σ : L2.St} {ρ : VEnv} (v : VOk b Zo Z σ H ρ) (ha : Zo a) (nb : ¬ b.B a) (hx : ∀ o, still o → H a ≠ some o) {o : HO} : VOk b Zo Z σ (upd H a o) ρ := by
  have keep : ∀ c u, H c = some u → ¬ Z c → upd H a o c = some u := fun c u e n => by rw [upd_ne (fun q => n (by rw [q]; exact v.zo a ha))]; exact e
  refine ⟨b.loc H _ (fun c hc => upd_ne fun q => nb (by rw [← q]; exact hc)) (fun c o ho e => by rw [upd_ne (fun q => hx o ho (by rw [← q]; exact e))]; exact e) v.g, v.zb, v.zo, fun c z => ?_, v.zi, fun i d e => ?_, v.inj, fun i d e => ?_, v.len⟩
  · by_cases q : c = a
    · rw [q, upd_same]; simp
    · rw [upd_ne q]; exact v.dom c z
  · obtain ⟨c, h1, h2, h3, h4⟩ := v.own i d e
    exact ⟨c, h1, h2, h3, h4.mono (fun _ z => .inl z) keep fun u e => by rw [upd_ne (fun q => h3 (by rw [q]; exact ha))]; exact e⟩
  · obtain ⟨u, h1, h2⟩ := v.shr i d e
    exact ⟨u, h1, h2.mono (fun _ z => .inl z) keep⟩
end
section
variable {b : Bg} {W : WX} {ti : VIt} {js : List Nat} {g : VTg} {tt : VB} {te : VT} {vs : List Nat}
theorem lc_sound (hjs : ∀ j ∈ js, j ∈ vs) : ∀ σ H Q, LE b W (RN b) (vLc vs ti g tt te) σ H Q → tLc (LI b W (fun _ => b.B) ti) (LG b js g) (LB b noW tt) (LE b noW (RE b) te) vs σ H Q :=
  fun σ H Q ⟨Zo, Z, ρ, Qd, Ed, v, ⟨hno, q⟩, l, m⟩ => ⟨Zo, Z, ρ, _, _, v, q, fun J H1 ds x1 g1 wk q1 => by
    intro A hA
    have v1 := v.ex x1 g1
    have nzA : ¬ Z A := v1.fresh hA
    have nbA : ¬ b.B A := v1.nb nzA
    have hA0 : H A = none := none_back g1 x1 A hA
    have v2 := (v1.apart hA (o := .lst [])).wiped hno
    -- the invariant
    let Iv : Nat → Hp → Prop := fun i H' => ∃ xs acc, H' A = some (.lst xs) ∧ Rqs (fun c => Z c ∨ c = A) H' xs acc ∧ VOk b (fun c => Zo c ∨ c = A) (fun c => Z c ∨ c = A) (wipe σ vs) H' (wipeE ρ vs) ∧ (∀ a o, H1 a = some o → ¬ b.B a → H' a = some o) ∧ lcGo g tt te Qd (ds.drop i) acc (wipeE ρ vs)
    refine ⟨fun i m H' => m = ds.length - i ∧ i ≤ ds.length ∧ Iv i H', ⟨ds.length, by simp, Nat.zero_le _, [], [], upd_same, .nil, v2, fun a o e _ => by rw [upd_ne (ne_of_none e hA)]; exact e, q1⟩, ?_⟩
    rintro i m H' ⟨rfl, hi, xs, acc, hx, rx, v', st, q'⟩
    by_cases hlt : i < ds.length
    · rw [List.drop_eq_getElem_cons hlt] at q'
      obtain ⟨go, yl⟩ := wk.go i ds[i] H' (List.getElem?_eq_getElem hlt) st v'.g
      refine .inr ⟨go, Iv (i + 1), fun H2 h2 => ⟨ds.length - (i + 1), by omega, rfl, hlt, h2⟩, fun w H3 y => ?_⟩
      obtain ⟨x3, g3, r3⟩ := yl w H3 y
      have v3 := v'.ex x3 g3
      refine ⟨H3, fun _ => True, _, _, _, ds[i], _, ⟨v3, fun _ _ e _ _ => e, fun _ _ _ _ _ => .inl trivial⟩, r3 _ (fun a z => z.imp id fun e => by rw [e]; exact hA) v'.dom, q', fun Z4 σ4 ρ4 sub sm f4 q4 => ?_⟩
      have ww : wipe (wipe σ vs) vs = wipe σ vs := wipe_same (js := vs) (σ := σ) (ρ := ρ) (ρ' := ρ) ⟨by rw [wipe_length], fun j hj => wipe_out hj, fun _ _ => rfl⟩ fun j h => h
      refine ⟨(wipe_same sm hjs).trans ww, ?_⟩
      have st3 : ∀ a o, H1 a = some o → ¬ b.B a → H3 a = some o := fun a o e n => x3 a o (st a o e n) n
      have hx3 : H3 A = some (.lst xs) := x3 A _ hx nbA
      refine ⟨_, _, _, _, _, f4.v, q4, fun k H5 x5 g5 q5 => ?_, fun c z H5 er _ _ _ h => h.elim⟩
      have st5 : ∀ a o, H1 a = some o → ¬ b.B a → H5 a = some o := fun a o e n => x5 a o (st3 a o e n) n
      have hx5 : H5 A = some (.lst xs) := x5 A _ hx3 nbA
      have v5 := v3.ex x5 g5
      have rx5 : Rqs (fun c => Z c ∨ c = A) H5 xs acc := v3.rqs x5 (v'.rqs x3 rx)
      cases k with
      | false => exact ⟨xs, acc, hx5, rx5, v5, st5, q5⟩
      | true =>
        refine ⟨_, _, _, _, _, f4.v.ex x5 g5, q5, fun u H6 d6 x6 g6 r6 ⟨p, ep, hz, q6⟩ => ?_, fun c z H6 er _ _ _ h => h.elim⟩
        subst ep
        have hx6 : H6 A = some (.lst xs) := x6 A _ hx5 nbA
        have rx6 := v5.rqs x6 rx5
        have v6 := v5.ex x6 g6
        have zo4 : ∀ c, (Zo c ∨ c = A) → Z4 c := f4.v.zo
        have r7 : Rq (fun c => Z c ∨ c = A) H6 u p := by
          refine Rq.mono (fun c z => ?_) (fun _ _ e _ => e) r6
          -- what the block's names own is what the def owns
          rcases v'.zi c z with z' | ⟨j, dj, h1, h2⟩
          · exact .inl (zo4 c z')
          · rcases wipeE_in h1 with ⟨h1, _⟩ | ⟨h1, hj⟩
            · cases h1
            · have hj' : j ∉ js := fun m => hj (hjs j m)
              have e4 := sm.env j hj'
              rw [wipeE_out h1 hj] at e4
              obtain ⟨c', h3, h4, _⟩ := f4.v.own j dj e4
              rw [sm.out j hj', h2] at h3
              cases h3
              exact .inl h4
        refine ⟨xs, hx6, by rw [rx6.length]; exact hz, xs ++ [u], acc ++ [p], upd_same, ?_, v6.outer (.inr rfl) nbA (fun o ho z => by rw [hx6] at z; cases z; exact ho), fun a o e n => ?_, q6⟩
        · have mv : ∀ c o, H6 c = some o → ¬ (Z c ∨ c = A) → upd H6 A (.lst (xs ++ [u])) c = some o := fun c o e n => by rw [upd_ne (fun q => n (.inr q))]; exact e
          exact (rx6.mono (fun _ z => .inl z) mv).append (.cons (Rq.mono (fun _ z => .inl z) mv r7) .nil)
        · rw [upd_ne (ne_of_none e hA)]
          exact x6 a o (st5 a o e n) n
    · have e : ds.length = i := by omega
      rw [List.drop_eq_nil_of_le (by omega)] at q'
      refine .inl ⟨wk.stop i H' e st, ?_⟩
      have xx : Ex b H H' := fun a o e n => st a o (x1 a o e n) n
      exact l _ H' (.py (.list acc)) xx v'.g ⟨A, rfl, hA0, xs, hx, rx⟩ q', m⟩
end
section
variable {X : Cx} {b : Bg} {W : WX} {tg iter elt c : Expr} {ifs : List Expr} {scope : Scope} {own : List (Str × Nat)} {pos spos py : Pos} {ti : VIt} {js : List Nat} {g : VTg} {tt : VB} {te : VT} {i : Nat} {y : Str}
/-- a block's tests -/
def VTs (X : Cx) (b : Bg) (ifs : List Expr) (t : VB) : Prop := PTs X ifs (LB b noW t)
theorem pts_mono {t t' : TT} (h : PTs X ifs t) (m : ∀ σ H Q, t' σ H Q → t σ H Q) : PTs X ifs t' := ⟨fun pins s σ H Q I q => h.run pins s σ H Q I (m σ H Q q)⟩
theorem vts_nil : VTs X b [] wYes := pts_mono pts_nil fun σ H Q ⟨Zo, Z, ρ, Qd, Ed, v, q, l, _⟩ => l true H Ex.refl v.g q
theorem vts_one (h : VTe X b noW c tt) : VTs X b [c] tt := pts_one h
theorem vn_lc (hc : X.calm = true) (hN : X.N.Nodup) (hi : VIb X b W tg iter ti) (ok : BlkOk X.N X.env.scope scope own) (hjs : ∀ j ∈ js, j ∈ own.map (·.2))
    (hg : ∀ (s : Shared) (H : Hp) (C : Addr) (cl : List (Str × Addr)) (fp : List Addr), VG (X.blk s H scope (compEnvC scope cl C X.env) fp) b tg js g) (ht : ∀ (s : Shared) (H : Hp) (C : Addr) (cl : List (Str × Addr)) (fp : List Addr), VTs (X.blk s H scope (compEnvC scope cl C X.env) fp) b ifs tt)
    (he : ∀ (s : Shared) (H : Hp) (C : Addr) (cl : List (Str × Addr)) (fp : List Addr), VE (X.blk s H scope (compEnvC scope cl C X.env) fp) b noW elt te) (hs : ∀ x, foldedSetIterable iter X.env x = pure x := by intro _; rfl) :
    VN X b W (.ListComp elt [⟨tg, iter, ifs, 0⟩] scope pos) (vLc (own.map (·.2)) ti g tt te) :=
  pe_mono (pe_lc hc hN hi ok hg ht he hs) (lc_sound hjs)
end
end VL
set_option Elab.async false
set_option linter.all false
set_option maxRecDepth 100000
set_option maxHeartbeats 4000000
namespace VL
open PySem PySem.Spec PyProof.Rows L2
/-! ### what a def promises, by values -/
abbrev SV := List D → (D → Prop) → (Er → Prop) → Prop
def spV (b : Bg) (S : SV) : Sp := fun vs H Q E => ∃ Z ds Qd Ed, Gd b Z H ∧ Rps b Z H vs ds ∧ S ds Qd Ed ∧ (∀ v H' d, Ex b H H' → b.G H' → Rp b Z H' v d → Qd d → Q v H') ∧ ∀ c x H' er, Ex b H H' → b.G H' → ErRp b Z H' c x er → Ed er → E c x H'
/-- the ends of a def's body -/
@[simp] def fin (Q : D → Prop) (E : Er → Prop) : VEnds := { nx := fun _ => Q (.py .none), rt := Q, bk := fun _ => False, ct := fun _ => False, ex := fun _ => E }
/-- the names' values at the entry -/
@[simp] def envOf (n : Nat) (ds : List D) : VEnv := ds.map Slot.shr ++ List.replicate (n - ds.length) .un
theorem Rps.at {b : Bg} {Z : Addr → Prop} {H : Hp} : ∀ {vs : List V} {ds : List D} {i : Nat} {d : D}, Rps b Z H vs ds → ds[i]? = some d → ∃ v, vs[i]? = some v ∧ Rp b Z H v d
  | _, _, _, _, .nil, e => by simp at e
  | _, _, 0, _, .cons r _, e => by simp at e; subst e; exact ⟨_, rfl, r⟩
  | _, _, i + 1, _, .cons _ t, e => by
    obtain ⟨y, h1, h2⟩ := Rps.at (i := i) t (by simpa using e)
    exact ⟨y, by simpa using h1, h2⟩
theorem envOf_at {n i : Nat} {ds : List D} {s : Slot} (h : (envOf n ds)[i]? = some s) : s = .un ∨ ∃ d, s = .shr d ∧ ds[i]? = some d := by
  unfold envOf at h
  by_cases hi : i < ds.length
  · rw [List.getElem?_append_left (by simpa using hi), List.getElem?_map] at h
    cases e : ds[i]? with
    | none => rw [e] at h; cases h
    | some d => rw [e] at h; cases h; exact .inr ⟨d, rfl, rfl⟩
  · rw [List.getElem?_append_right (by simpa using hi), List.getElem?_replicate] at h
    split at h
    · cases h; exact .inl rfl
    · cases h
theorem VOk.entry {b : Bg} {Z : Addr → Prop} {H : Hp} {N : List Str} {vs : List V} {ds : List D} (g : Gd b Z H) (r : Rps b Z H vs ds) (hl : vs.length ≤ N.length) : VOk b Z Z (L2.start N vs) H (envOf N.length ds) where
  g := g.g
  zb := g.zb
  zo := fun _ z => z
  dom := g.dom
  zi := fun _ z => .inl z
  own := fun i d e => by
    rcases envOf_at e with h | ⟨d', h, _⟩ <;> cases h
  inj := fun i j d e a h1 _ _ _ => by
    rcases envOf_at h1 with h | ⟨d', h, _⟩ <;> cases h
  shr := fun i d e => by
    rcases envOf_at e with h | ⟨d', h, hd⟩
    · cases h
    · cases h
      obtain ⟨v, hv, rv⟩ := r.at hd
      refine ⟨v, ?_, rv⟩
      unfold L2.start
      have hi : i < vs.length := (List.getElem?_eq_some_iff.mp hv).1
      rw [List.getElem?_append_left (by simpa using hi), List.getElem?_map, hv]
      rfl
  len := by
    unfold envOf L2.start
    rw [List.length_append, List.length_map, List.length_replicate, List.length_append, List.length_map, List.length_replicate, ← r.length]
abbrev WF (E : XK) : WX := fun c d _ H => E c d H
section
variable {P : Program} {w : World} {K : PySem.W.Frag} {mg : Str → Option Value} {base : Heap} {b : Bg} {k : Nat} {x qual : Str} {st : Stmt} {f : Addr} {fd : FuncData} {N ps : List Str} {S : SV}
theorem fin_link {t : VS} {H : Hp} {vs : List V} {Q : VK} {E : XK} (hlaw : ∀ ds Q E, S ds Q E → t (envOf N.length ds) (fin Q E)) (hl : vs.length ≤ N.length) (h : spV b S vs H Q E) :
    LS b (WF E) t { nx := fun _ H' => Q .non H', rt := Q } (L2.start N vs) H := by
  obtain ⟨Z, ds, Qd, Ed, g, r, s, l, m⟩ := h
  have x : ∀ {H'}, (∀ a o, H a = some o → ¬ b.B a → ¬ False → H' a = some o) → Ex b H H' := fun h a o e n => h a o e n not_false
  refine ⟨H, fun _ => False, Z, Z, envOf N.length ds, fin Qd Ed, ⟨VOk.entry g r hl, fun _ _ e _ _ => e, fun i d a e _ => ?_⟩, hlaw ds Qd Ed s, ⟨fun Z' σ' H' ρ' f' q => l .non H' (.py .none) (x f'.ext) f'.v.g Rq.non q, fun v H' d x1 g1 r1 q => l v H' d (x x1) g1 r1 q, fun _ _ _ _ _ q => q.elim, fun _ _ _ _ _ q => q.elim, fun c y Z' σ' H' ρ' er f' r' q => m c y H' er (x f'.ext) f'.v.g ?_ q, fun _ _ _ _ _ _ _ _ q => q.elim⟩⟩
  · rcases envOf_at e with h | ⟨d', h, _⟩ <;> cases h
  · obtain ⟨h1, h2⟩ := r'
    refine ⟨h1, h2.imp id ?_⟩
    rintro ⟨a, xs, e1, e2, e3, e4⟩
    exact ⟨a, xs, e1, e2, fun z => e3 (f'.v.zo a z), e4.mono (fun c z => .inl (f'.v.zo c z)) fun _ _ e _ => e⟩
/-- a def of the text, by its body -/
theorem fnV (F : Fun K x qual st f fd) (Sc : FnScope N ps (defScope st)) {t : VS} (hlen : ∀ ds Q E, S ds Q E → ds.length = ps.length) (hps : ps.length ≤ N.length)
    (hbody : ∀ (cdv : Value) (A : Around) (outer : List Env) (s : Shared) (H : Hp) (E : XK), Room k (A.deeper (envOfC qual (defScope st) s.heap.objs.size f cdv)) →
      Takes (cxOf (L2.CX P w) P w K mg base N qual (defScope st) f cdv A outer s H E) (WF E) → VSs (cxOf (L2.CX P w) P w K mg base N qual (defScope st) f cdv A outer s H E) b (WF E) (defBody st) t)
    (hlaw : ∀ ds Q E, S ds Q E → t (envOf N.length ds) (fin Q E)) : FnOk P w K mg base (L2.CX P w) (k + 1) f fd ps (spV b S) := by
  have len : ∀ vs H Q E, spV b S vs H Q E → vs.length = ps.length := fun vs H Q E ⟨Z, ds, Qd, Ed, g, r, s, _⟩ => r.length.trans (hlen ds Qd Ed s)
  refine F.okX Sc len fun cdv A outer s H vs Q E hr h => ⟨_, hbody cdv A outer s H E hr (takes_of rfl rfl rfl rfl), fin_link hlaw (Nat.le_trans (Nat.le_of_eq (len _ _ _ _ h)) hps) h⟩
end
/-! ### calls -/
@[simp] def vCall (S : SV) (u : VA) : VT := fun ρ Q E => u ρ (fun ds => S ds Q E) E
section
variable {X : Cx} {b : Bg} {W : WX} {k : Nat} {f : Addr} {fd : FuncData} {ps : List Str} {S : SV} {x : Str} {e : Expr} {es : List Expr} {u : VA} {p pos : Pos}
theorem call_core {sp : Sp} {t : TA} (hu : t = LA b W u) (hs : sp = spV b S) : ∀ σ H Q, LE b W (RE b) (vCall S u) σ H Q → tCallS sp (WE W) t σ H Q := by
  subst hu hs
  exact fun σ H Q ⟨Zo, Z, ρ, Qd, Ed, v, q, l, m⟩ => ⟨Zo, Z, ρ, _, Ed, v, q, fun vs H1 ds x1 g1 r1 q1 => by
    have v1 := v.ex x1 g1
    exact ⟨Z, ds, Qd, Ed, v1.gd, r1, q1, fun y H2 d x2 g2 r2 q2 => l y H2 d (x1.trans x2) g2 r2 q2, fun c z H2 er x2 g2 r2 q2 => m c z H2 er (x1.trans x2) g2 r2 q2⟩, m⟩
theorem ve_call (F : FnOk X.prog X.w X.K X.mg X.base (L2.CX X.prog X.w) k f fd ps (spV b S)) (hr : Room k X.A) (tk : Takes X W) (hg : Gl X x) (hm : X.mg x = some (.ref f)) (hk : PySem.W.keepIn X.K (.ref f) = true) (hb : Binds X.K fd ps [])
    (ha : VAs X b W (e :: es) u) (hdb : (x == ("__debug__" : Str)) = false := by decide) (he : starEach (e :: es) X.env = (false, eval e X.env) :: starEach es X.env := by rfl) (hpl : (backTo pos (starEach es X.env)).any (·.1) = false := by rfl) :
    VE X b W (.Call (.Name x p) (e :: es) [] pos) (vCall S u) := pe_mono (pe_callS F hr hg hm hk hb (passAt tk) ha hdb he hpl) (call_core rfl rfl)
/-- a constant of the module -/
theorem ve_glob {v : V} {d : PyData} {uu : Value} (hg : Gl X x) (hm : X.mg x = some uu) (r : RelV v uu) (rd : ∀ (Z : Addr → Prop) (H : Hp), Rq Z H v d) (hd : (x == ("__debug__" : Str)) = false := by decide) : VE X b W (.Name x pos) (vC (.py d)) :=
  ve_const (pe_glob hg hm r hd) rd
end
end VL
set_option Elab.async false
set_option linter.all false
set_option maxRecDepth 100000
set_option maxHeartbeats 4000000
namespace VL
open PySem PySem.Spec PyProof.Rows L2
/-! ### repr of plain data (dicts among it: none of the tracked dicts is the modules' own) -/
section
variable {X : Cx} {pins : List (Addr × Obj)} {σ : L2.St} {H : Hp} {s : Shared} {Z : Addr → Prop}
section
variable {P : Program} {w : World} {h : Heap} {a : Addr} {o : Obj} {n : Nat}
end
end
section
variable {X : Cx} {b : Bg} {W : WX} {e : Expr} {u : VA} {p pos : Pos}
/-- data that repr can show here -/
structure ReprOk (d : PyData) : Prop where
  sh : d.showable = true
  len : d.shown.length ≤ sizeLine
  dep : d.depth ≤ 40
@[simp] def gRepr : List D → (D → Prop) → Prop
  | [.py d], Q => ReprOk d ∧ Q (.py (.str d.shown))
  | _, _ => False
end
end VL
set_option Elab.async false
set_option linter.all false
set_option maxRecDepth 100000
set_option maxHeartbeats 4000000
namespace VL
open PySem PySem.Spec PyProof.Rows L2
/-! ### the law itself: called where nothing is being shown -/
structure FnG (P : Program) (w : World) (K : PySem.W.Frag) (mg : Str → Option Value) (base : Heap) (k : Nat) (f : Addr) (fd : FuncData) (ps : List Str) (sp : Sp) : Prop where
  run : ∀ (A : Around) (outer : List Env) (s : Shared) (H : Hp) (args : Args) (us : List Value) (vs : List V) (Q : VK) (E : XK), Room k A → A.guards = some [] → Env0 P w K mg base A outer s H → BindsTo s fd args (ps.zip us) → Vals vs us → sp vs H Q E →
    codeAny (model P w) A (.call (.ref f) args) (CR (L2.CX P w) outer P w H s Q E) s
section
variable {P : Program} {w : World} {K : PySem.W.Frag} {mg : Str → Option Value} {base : Heap} {k : Nat} {x qual : Str} {st : Stmt} {f : Addr} {fd : FuncData} {N ps : List Str} {sp : Sp}
theorem fnG (F : Fun K x qual st f fd) (S : FnScope N ps (defScope st)) (len : ∀ vs H Q E, sp vs H Q E → vs.length = ps.length)
    (hbody : ∀ (cdv : Value) (A : Around) (outer : List Env) (s : Shared) (H : Hp) (vs : List V) (Q : VK) (E : XK), Room k (A.deeper (envOfC qual (defScope st) s.heap.objs.size f cdv)) → (A.deeper (envOfC qual (defScope st) s.heap.objs.size f cdv)).guards = some [] → sp vs H Q E →
      ∃ t, PSs (cxOf (L2.CX P w) P w K mg base N qual (defScope st) f cdv A outer s H E) (defBody st) t ∧ t { nx := fun _ H' => Q .non H', rt := Q } (L2.start N vs) H) : FnG P w K mg base (k + 1) f fd ps sp := by
  obtain ⟨oc, od, kV, doc, pm, an, cdv, ct, osl, rfl, lk, hcd⟩ := F.ex
  refine ⟨fun A outer s H args us vs Q E hr hgd e0 hb rv hsp => ?_⟩
  have nl : s.heap.NoLimit := e0.mod.nolimit.keeps fun b o e => (e0.bs b o e).1
  have kin : K.In s.heap := e0.mod.kin.keeps fun b o e => (e0.bs b o e).1
  have kinds : ∀ y ∈ ps.zip us, (defScope st).names.lookup y.1 = some .local ∨ ((defScope st).names.lookup y.1 = some .cell ∧ ((cellsFrom (s.heap.objs.size + 1) (defScope st).names []).lookup y.1).isSome = true) := fun ⟨n, v⟩ hy =>
    (S.par n (List.of_mem_zip hy).1).imp id fun q => ⟨q, PySem.W.cellsFrom_some _ _ _ (.inl q)⟩
  refine codeAny_call_function hr.depth (kin _ _ lk) rfl S.co S.gen rfl (PySem.W.codeRec_of kin hcd) (hb _ _ _ _ (wpAny_newFunctionEnv_cells S.kind kinds fun env he s1 ic => ?_))
  subst he
  refine ⟨nl.keeps ic.toInCall.keep, codeAny_func ?_⟩
  obtain ⟨t, ht, hq⟩ := hbody cdv A outer s H vs Q E (hr.deeper _) hgd hsp
  refine wpAny_mono (ht.run [] s1 (L2.start N vs) H _ (inv_start S hr.hd e0 (len _ _ _ _ hsp) rv ic) hq) (fun fl s' hs => ?_) fun e s' hs => hs
  cases fl with
  | ret u =>
    obtain ⟨v, σ', H', J, rv', q⟩ := hs
    exact ⟨v, H', J.os, J.bare, J.base, J.hok, rv', q⟩
  | next =>
    obtain ⟨σ', H', J, q⟩ := hs
    exact ⟨.non, H', J.os, J.bare, J.base, J.hok, rfl, q⟩
  | brk => exact hs.elim fun _ h => h.elim fun _ h => h.2.elim
  | cont => exact hs.elim fun _ h => h.elim fun _ h => h.2.elim
end
/-- at the heap behind the top -/
theorem lawG {P : Program} {w : World} {K : PySem.W.Frag} {mg mb : Str → Option Value} {k : Nat} {fa a : Addr} {fd : FuncData} {x : Str} {sp : Sp} {s0 : Shared} {vs : List Value} {ns : List Int}
    (KX : K.In s0.heap) (hns : s0.heap.Ns mainGlobals mg) (hb : s0.heap.Ns builtinsNs mb) (hbb : ∀ x : Str, x ≠ "__name__" → mb x = bootBuiltins x) (hlim : s0.heap.NoLimit) (hgens : s0.gens = #[])
    (ha : s0.heap.get? a = some { cls := .type "list", data := .seq vs.toArray }) (hi : IntsAre vs ns) (hl : ns.length ≤ sizeLine) (hr : Room k callerA)
    (F : ∀ base : Heap, K.In base → base.Ns mainGlobals mg → FnG P w K mg base k fa fd [x] sp) (hbind : ∀ (s : Shared) (u : Value), BindsTo s fd ⟨[u], []⟩ [(x, u)])
    (hsp : ∀ H : Hp, Only H → SqL K H a (ns.map V.int) → sp [.ref a] H (fun v _ => v = .bl true) fun _ _ _ => False) :
    codeAny (model P w) callerA (.call (.ref fa) ⟨[.ref a], []⟩) (fun r s' => r = .ok (.ret (.bool true)) ∧ OldK s0.heap s'.heap ∧ s'.os = s0.os ∧ AllBare s'.gens) s0 := by
  have rv := vals_ints hi
  -- whatever is tracked is the script
  have go : ∀ H : Hp, Only H → SqL K H a (ns.map V.int) → HOk P w H s0.heap → (∀ b, H b ≠ none → b = a) → (H a ≠ none → K.lookup a = none) →
      codeAny (model P w) callerA (.call (.ref fa) ⟨[.ref a], []⟩) (fun r s' => r = .ok (.ret (.bool true)) ∧ OldK s0.heap s'.heap ∧ s'.os = s0.os ∧ AllBare s'.gens) s0 := by
    intro H hO hS hok hA hK
    have only_a : ∀ {b : Addr} {u : HO}, H b = some u → b = a := fun {b u} q => hA b (by rw [q]; simp)
    have low : ∀ {b : Addr} {o : Obj}, s0.heap.get? b = some o → H b = none → (hidT s0.heap H).get? b = some o := fun e n => hidT_get e n
    have nsk : ∀ {b : Addr} {m : Str → Option Value}, s0.heap.Ns b m → (hidT s0.heap H).Ns b m := fun {b m} ⟨o, es, ep, e, d, r⟩ => ⟨o, es, ep, low e (by
      cases q : H b with
      | none => rfl
      | some u =>
        rw [only_a q, ha] at e
        cases e
        have d' : Data.seq vs.toArray _ = Data.dict es ep := d
        cases d'), d, r⟩
    have kb : K.In (hidT s0.heap H) := fun b o e => low (KX b o e) (by
      cases q : H b with
      | none => rfl
      | some u =>
        have eb := only_a q
        subst eb
        rw [hK (by rw [q]; simp)] at e
        cases e)
    obtain ⟨mc, c1, c2⟩ := hlim
    have env : Env0 P w K mg (hidT s0.heap H) callerA [] s0 H := ⟨rfl, ⟨kb, nsk hns, ⟨mb, nsk hb, hbb⟩, ⟨mc, nsk c1, c2⟩⟩, fun b o e => of_hidT e, Nat.le_of_eq (hidT_size _ _), trivial, (fun b m => nomatch (show b ∈ ([] : List Addr) from m)), hok, .of_eq hgens⟩
    refine codeAny_mono ((F _ kb (nsk hns)).run callerA [] s0 H ⟨[.ref a], []⟩ [.ref a] [.ref a] _ _ hr rfl env (hbind s0 (.ref a)) (.cons rfl .nil) (hsp H hO hS)) fun r s' h => ?_
    match r, h with
    | .error e, h => obtain ⟨_, _, _, _, _, _, _, _, _, _, _, _, z⟩ := h; exact z.elim
    | .ok .next, h => exact (show False from h).elim
    | .ok .brk, h => exact (show False from h).elim
    | .ok .cont, h => exact (show False from h).elim
    | .ok (.ret u), h =>
      obtain ⟨v, H', os, bare, un, hok', r', q⟩ := h
      have ev : v = .bl true := q
      subst ev
      obtain rfl : u = Value.bool true := r'
      refine ⟨rfl, OldK.of_keep fun b o e => ?_, os, bare⟩
      cases q : H b with
      | none => exact un.keep b o e q (fun z => nomatch (show b ∈ ([] : List Addr) from z)) (by simp)
      | some u =>
        rcases hO b with z | ⟨ob, xs, z⟩
        · rw [q] at z; cases z
        · obtain ⟨e1, _⟩ := hok b _ z
          obtain ⟨e2, _⟩ := hok' b _ (un.frzs b ob _ z)
          rw [e] at e1; cases e1
          exact e2
  cases hk : K.lookup a with
  | some o =>
    have e := KX a o hk
    rw [ha] at e
    cases e
    refine go (fun _ => none) (fun _ => .inl rfl) (.inr ⟨_, vs.toArray, _, hk, rfl, rfl, rfl, by rw [List.size_toArray, hi.length]; exact hl, by simpa using rv⟩) (fun b u z => nomatch (show (none : Option HO) = some u from z)) (fun b z => absurd rfl z) fun z => absurd rfl z
  | none =>
    have at1 : ∀ b, b ≠ a → (if b = a then some (HO.frz { cls := .type "list", data := .seq vs.toArray } (.lst (ns.map V.int))) else none) = none := fun b hb => if_neg hb
    refine go (fun b => if b = a then some (.frz { cls := .type "list", data := .seq vs.toArray } (.lst (ns.map V.int))) else none) (fun b => ?_) (.inl (.inr ⟨_, if_pos rfl⟩)) (fun b u z => ?_) (fun b z => Classical.byContradiction fun n => z (at1 b n)) fun _ => hk
    · by_cases hb : b = a
      · exact .inr ⟨_, _, if_pos hb⟩
      · exact .inl (at1 b hb)
    · by_cases hb : b = a
      · have z' := (if_pos hb).symm.trans z
        cases z'
        subst hb
        exact ⟨ha, by rw [List.length_map]; exact hl, vs, _, rv, ha⟩
      · have z' := (at1 b hb).symm.trans z
        cases z'
/-- the end -/
theorem walkG {l : PySem.W.OpenLaw} {n k : Nat} {q : Program} {loose : List Str} {XP : (Str → Option Value) → Heap → Prop} {YP : World → Heap → Prop} {d : DefRec} {K : Params → PySem.W.Frag} {sp : World → Sp} {x : Str}
    (hn : l.most = some n) (hn2 : n ≤ sizeLine) (hdf : d.params.defaults = []) (hr : Room k callerA) (hY : ∀ (w : World) (h : Heap), YP w h → (K w.params).In h)
    (F : ∀ (w : World) (mg : Str → Option Value) (fa : Addr) (h : Heap), (K w.params).In h → h.Ns mainGlobals mg → mg d.name = some (.ref fa) →
      ∃ fd : FuncData, (∀ (s : Shared) (u : Value), BindsTo s fd ⟨[u], []⟩ [(x, u)]) ∧ ∀ base : Heap, (K w.params).In base → base.Ns mainGlobals mg → FnG l.prog w (K w.params) mg base k fa fd [x] (sp w))
    (hsp : ∀ (w : World) (H : Hp) (a : Addr) (ns : List Int), ns.length ≤ n → Only H → SqL (K w.params) H a (ns.map V.int) → sp w [.ref a] H (fun v _ => v = .bl true) fun _ _ _ => False) :
    PySem.W.WalkO q loose XP YP l.row.toRowW d [] (fun f vs => PySem.call f vs) := by
  refine Att.attach_call hn hdf fun w s s0 mg mb fa o pm cd doc a vs ns G Y ho hd hcd hmg hobj hints hlen hg => ?_
  obtain ⟨fd, hb, hF⟩ := F w mg fa _ (hY w _ Y) G.T.g hmg
  exact lawG (hY w _ Y) G.T.g G.T.b G.T.builtins G.T.nolimit hg hobj hints (Nat.le_trans hlen hn2) hr hF hb fun H hO hS => hsp w H a ns hlen hO hS
end VL
set_option Elab.async false
set_option linter.all false
set_option maxRecDepth 100000
set_option maxHeartbeats 4000000
namespace VL
open PySem PySem.Spec PyProof.Rows L2
/-! ### // by a divisor below 2 ** 200 -/
def CDivB (i j : Int) : Prop := j ≠ 0 ∧ j.natAbs < 1606938044258990275541962092341162602522202993782792835301376
theorem op_fdivB {X : Cx} : OpR X (binaryOp .FloorDiv) (rI CDivB fun i j => .int (i.fdiv j)) := opI fun i j _ _ _ _ _ hc q => floordiv_int hc.1 q (.inl (PyProof.noPylong_of_log2 (by
  have h0 : j.natAbs ≠ 0 := by have := hc.1; omega
  have h := hc.2
  have h200 : j.natAbs.log2 < 200 := (Nat.log2_lt h0).mpr h
  omega)))
/-! ### a bag of drawn numbers: a dict with two lists, its own -/
abbrev kC : Key := .inr "cells"
/-- .. over values -/
@[simp] def svTake (r : Addr) : SV
  | [.raw v, .py (.int m)], Q, _ => v = .ref r ∧ 0 < m ∧ m < 1606938044258990275541962092341162602522202993782792835301376 ∧ ∀ x : Int, 0 ≤ x → x < m → Q (.py (.int x))
  | _, _, _ => False
theorem svTake_ex {r : Addr} : ∀ {ds : List D} {Q : D → Prop} {E : Er → Prop}, svTake r ds Q E → ∃ m : Int, ds = [.raw (.ref r), .py (.int m)] ∧ 0 < m ∧ m < 1606938044258990275541962092341162602522202993782792835301376 ∧ ∀ x : Int, 0 ≤ x → x < m → Q (.py (.int x))
  | [.raw v, .py (.int m)], _, _, ⟨e, h⟩ => ⟨m, by rw [e], h⟩
def AllIn (xs : List PyData) (R : PyData → Prop) : Prop := ∀ y ∈ xs, R y
/-- an item of a list or tuple, by a drawn number -/
@[simp] def svPick (r : Addr) : SV
  | [.raw v, .py (.list xs)], Q, _ => v = .ref r ∧ xs ≠ [] ∧ xs.length < 1606938044258990275541962092341162602522202993782792835301376 ∧ AllIn xs fun y => Q (.py y)
  | [.raw v, .py (.tuple xs)], Q, _ => v = .ref r ∧ xs ≠ [] ∧ xs.length < 1606938044258990275541962092341162602522202993782792835301376 ∧ AllIn xs fun y => Q (.py y)
  | [.raw v, .py (.str z)], Q, _ => v = .ref r ∧ z.length ≤ sizeLine ∧ signsD z ≠ [] ∧ AllIn (signsD z) fun y => Q (.py y)
  | _, _, _ => False
end VL
namespace VL
open PySem
theorem plain_ints (l : List Int) : PyData.plainAll (l.map PyData.int) = true := by
  induction l with
  | nil => rfl
  | cons a l ih => simp [PyData.plainAll, PyData.plain, ih]
end VL
namespace VL
open PySem PySem.Spec PyProof.Rows L2
def bigs (k : Int) (cs : List Int) : List Int := cs.filter fun c => decide (k ≤ c)
end VL
set_option Elab.async false
set_option linter.all false
set_option maxRecDepth 100000
set_option maxHeartbeats 4000000
namespace VL
open PySem PySem.Spec PyProof.Rows L2
open Sem (wp)
/-! ### x[::-1] -/
section
variable {prog : Program} {w : World} {A : Around} {E : Value → Shared → Prop} {s : Shared}
end
section
variable {X : Cx} {e st : Expr} {te : TE} {tl : TO} {p2 pos : Pos}
end
section
variable {X : Cx} {b : Bg} {W : WX} {e e1 e2 st : Expr} {t t1 t2 : VT} {tl : VO} {p2 pos : Pos}
@[simp] def gBk : D → (D → Prop) → Prop
  | .py (.list xs), Q => Q (.py (.list xs.reverse))
  | .py (.tuple xs), Q => Q (.py (.tuple xs.reverse))
  | _, _ => False
@[simp] def vBk (t : VT) (tl : VO) : VT := fun ρ Q E => t ρ (fun x => tl ρ (fun k => k = some (-1) ∧ gBk x Q) E) E
/-! ### products, minus -/
@[simp] def gMul : D → D → (D → Prop) → Prop
  | .py (.int i), .py (.int j), Q => CMul i j ∧ Q (.py (.int (i * j)))
  | .py (.list xs), .py (.int k), Q => (-(2 ^ 63) ≤ k ∧ k < 2 ^ 63 ∧ xs.length * k.toNat ≤ sizeLine) ∧ Q (.py (.list (List.replicate k.toNat xs).flatten))
  | .py (.tuple xs), .py (.int k), Q => (xs ≠ [] ∧ 2 ≤ k ∧ k ≤ 1000 ∧ xs.length ≤ 1000) ∧ Q (.py (.tuple (List.replicate k.toNat xs).flatten))
  | _, _, _ => False
@[simp] def gRepL : D → D → (D → Prop) → Prop
  | .py (.list xs), .py (.int k), Q => (-(2 ^ 63) ≤ k ∧ k < 2 ^ 63 ∧ xs.length * k.toNat ≤ sizeLine) ∧ Q (.py (.list (List.replicate k.toNat xs).flatten))
  | _, _, _ => False
theorem rn_rep : OpD b (RN b) rRep gRepL := by
  intro Z H x y dx dy Q Qd gd rx ry h k
  match dx, dy, h, rx, ry with
  | .py (.list xs), .py (.int n), ⟨⟨h1, h2, h3⟩, h⟩, rx, ry =>
    obtain ⟨a, us, rfl, ha, qa⟩ := rx.list
    refine ⟨a, n, us, rfl, ry.int, ha, h1, h2, by rw [qa.length]; exact h3, fun p hp => k _ _ (.py (.list _)) (Ex.new hp) (gd.new hp) ⟨p, rfl, hp, _, upd_same, (qa.rep n.toNat).up' hp⟩ h⟩
theorem rd_mul : OpD b (RE b) (fun x y H Q => rI CMul (fun i j => .int (i * j)) x y H Q ∨ (fun x y H Q => rRep x y H Q ∨ rRepF X.K x y H Q) x y H Q) gMul := by
  intro Z H x y dx dy Q Qd gd rx ry h k
  match dx, dy, h, rx, ry with
  | .py (.int i), .py (.int j), ⟨hc, h⟩, rx, ry =>
    rw [rx.int, ry.int]
    exact .inl ⟨i, j, rfl, rfl, hc, k _ H (.py (.int (i * j))) Ex.refl gd.g (.int _) h⟩
  | .py (.list xs), .py (.int n), h, rx, ry => exact .inr (.inl (OpD.toE rn_rep Z H x y (.py (.list xs)) (.py (.int n)) Q Qd gd rx ry h k))
  | .py (.tuple xs), .py (.int n), ⟨⟨h1, h2, h3, h4⟩, h⟩, rx, ry =>
    obtain ⟨a, oa, us, rfl, ha, da, na, qa⟩ := rx.tuple
    refine .inr (.inr ⟨a, n, us, rfl, ry.int, SqT.th ha, fun e => ?_, h2, h3, by rw [qa.length]; exact h4, fun p o hp ho => k _ _ (.py (.tuple _)) (Ex.new hp) (gd.new hp) (.tup upd_same ho (gd.fresh hp) ((qa.rep n.toNat).up hp)) h⟩)
    subst e
    cases qa
    exact h1 rfl
@[simp] def gNeg : D → (D → Prop) → Prop
  | .py (.int i), Q => Q (.py (.int (-i)))
  | _, _ => False
theorem ve_neg (h : VX X b W e t) : VE X b W (.UnaryOp .USub e pos) (vUn gNeg t) :=
  pe_mono (pe_un un_neg h) fun σ H Q ⟨Zo, Z, ρ, Qd, Ed, v, q, l, m⟩ => ⟨Zo, Z, ρ, _, Ed, v, q, fun x H1 d x1 g1 r1 q1 => by
    match d, q1, r1 with
    | .py (.int i), q1, r1 => exact ⟨i, r1.int, l _ H1 (.py (.int (-i))) x1 g1 (Rq.int _) q1⟩, m⟩
/-! ### dict displays -/
@[simp] def vD0 : VT := fun _ Q _ => Q (.py (.dict []))
theorem vn_dict0 : VN X b W (.Dict [] [] pos) vD0 := pe_mono pe_dnewK fun σ H Q ⟨Zo, Z, ρ, Qd, Ed, v, q, l, m⟩ p hp => l _ _ (.py (.dict [])) (Ex.new hp) (Bg.new v.g hp) ⟨p, rfl, hp, [], upd_same, .nil⟩ q
@[simp] def vD1 (k : Key) (t : VT) : VT := fun ρ Q E => t ρ (fun d => ∃ p, d = .py p ∧ Q (.py (.dict [(kD k, p)]))) E
end
end VL
set_option Elab.async false
set_option linter.all false
set_option maxRecDepth 100000
set_option maxHeartbeats 4000000
namespace VL
open PySem PySem.Spec PyProof.Rows L2
theorem bb_int : bootBuiltins "int" = some (.type "int") := by decide +kernel
theorem bb_str : bootBuiltins "str" = some (.type "str") := by decide +kernel
theorem bb_bool : bootBuiltins "bool" = some (.type "bool") := by decide +kernel
theorem bb_tuple : bootBuiltins "tuple" = some (.type "tuple") := by decide +kernel
theorem bb_list : bootBuiltins "list" = some (.type "list") := by decide +kernel
theorem bb_sum : bootBuiltins "sum" = some (.builtin "sum") := by decide +kernel
theorem bb_max : bootBuiltins "max" = some (.builtin "max") := by decide +kernel
theorem bb_isi : bootBuiltins "isinstance" = some (.builtin "isinstance") := by decide +kernel
section
variable {X : Cx} {b : Bg} {W : WX} {e : Expr} {es : List Expr} {u : VA} {p pos : Pos} {t : VT}
theorem ve_intC (hg : Gl X "int") (hm : X.mg "int" = none) (ha : VXs X b W (e :: es) u) (he : starEach (e :: es) X.env = (false, eval e X.env) :: starEach es X.env := by rfl) (hpl : (backTo pos (starEach es X.env)).any (·.1) = false := by rfl) :
    VE X b W (.Call (.Name "int" p) (e :: es) [] pos) (vCal gInt u) := ve_callTy (CallR.or call_int1 call_int_str) rd_int hg hm bb_int ha (by decide) (by decide) he hpl
theorem ve_tupleC (hg : Gl X "tuple") (hm : X.mg "tuple" = none) (ha : VXs X b W (e :: es) u) (he : starEach (e :: es) X.env = (false, eval e X.env) :: starEach es X.env := by rfl) (hpl : (backTo pos (starEach es X.env)).any (·.1) = false := by rfl) :
    VE X b W (.Call (.Name "tuple" p) (e :: es) [] pos) (vCal gTuple u) := ve_callTy call_tupF rd_tuple hg hm bb_tuple ha (by decide) (by decide) he hpl
theorem vn_listC (hg : Gl X "list") (hm : X.mg "list" = none) (ha : VXs X b W (e :: es) u) (he : starEach (e :: es) X.env = (false, eval e X.env) :: starEach es X.env := by rfl) (hpl : (backTo pos (starEach es X.env)).any (·.1) = false := by rfl) :
    VN X b W (.Call (.Name "list" p) (e :: es) [] pos) (vCal gList u) := vn_callTy call_list_of rd_list hg hm bb_list ha (by decide) (by decide) he hpl
theorem ve_isi (hg : Gl X "isinstance") (hm : X.mg "isinstance" = none) (ha : VXs X b W (e :: es) u) (he : starEach (e :: es) X.env = (false, eval e X.env) :: starEach es X.env := by rfl) (hpl : (backTo pos (starEach es X.env)).any (·.1) = false := by rfl) :
    VE X b W (.Call (.Name "isinstance" p) (e :: es) [] pos) (vCal gIsi u) := ve_callB call_isi rd_isi hg hm bb_isi ha (by decide) (by decide) he hpl
theorem ve_tyInt (hg : Gl X "int") (hm : X.mg "int" = none) : VE X b W (.Name "int" pos) (vC (.raw (.ty "int"))) := ve_ty hg hm bb_int
theorem ve_tyBool (hg : Gl X "bool") (hm : X.mg "bool" = none) : VE X b W (.Name "bool" pos) (vC (.raw (.ty "bool"))) := ve_ty hg hm bb_bool
theorem ve_sum (hc : X.calm = true) (hg : Gl X "sum") (hm : X.mg "sum" = none) (ha : VXs X b W (e :: es) u) (he : starEach (e :: es) X.env = (false, eval e X.env) :: starEach es X.env := by rfl) (hpl : (backTo pos (starEach es X.env)).any (·.1) = false := by rfl) :
    VE X b W (.Call (.Name "sum" p) (e :: es) [] pos) (vCal gSum u) := ve_callB (cr_sum hc) rd_sum hg hm bb_sum ha (by decide) (by decide) he hpl
theorem ve_max (hc : X.calm = true) (hg : Gl X "max") (hm : X.mg "max" = none) (ha : VXs X b W (e :: es) u) (he : starEach (e :: es) X.env = (false, eval e X.env) :: starEach es X.env := by rfl) (hpl : (backTo pos (starEach es X.env)).any (·.1) = false := by rfl) :
    VE X b W (.Call (.Name "max" p) (e :: es) [] pos) (vCal gMax u) := ve_callB (CallR.or (call_max2 hc) (cr_max hc)) rd_max hg hm bb_max ha (by decide) (by decide) he hpl
/-- a constant of the module that is an int -/
theorem ve_gint {x : Str} {i : Int} (hg : Gl X x) (hm : ∃ t, X.mg x = some (.int i t)) (hd : (x == ("__debug__" : Str)) = false := by decide) : VE X b W (.Name x pos) (vC (.py (.int i))) := by
  obtain ⟨t, h⟩ := hm
  exact ve_glob (v := .int i) hg h ⟨t, rfl⟩ (fun _ _ => .int i) hd
end
/-! ### a def that is called: all that its call wants -/
structure Cal (P : Program) (w : World) (K : PySem.W.Frag) (mg : Str → Option Value) (base : Heap) (b : Bg) (k : Nat) (x : Str) (ps : List Str) (S : SV) where
  f : Addr
  fd : FuncData
  F : FnOk P w K mg base (L2.CX P w) k f fd ps (spV b S)
  g : mg x = some (.ref f)
  kp : PySem.W.keepIn K (.ref f) = true
  bd : Binds K fd ps []
section
variable {X : Cx} {b : Bg} {W : WX} {k j : Nat} {x : Str} {ps : List Str} {S : SV} {e : Expr} {es : List Expr} {u : VA} {p pos : Pos}
theorem ve_cal (c : Cal X.prog X.w X.K X.mg X.base b k x ps S) (hr : Room j X.A) (tk : Takes X W) (hg : Gl X x) (ha : VAs X b W (e :: es) u) (hk : k ≤ j := by decide) (hdb : (x == ("__debug__" : Str)) = false := by decide)
    (he : starEach (e :: es) X.env = (false, eval e X.env) :: starEach es X.env := by rfl) (hpl : (backTo pos (starEach es X.env)).any (·.1) = false := by rfl) : VE X b W (.Call (.Name x p) (e :: es) [] pos) (vCall S u) :=
  ve_call c.F (hr.mono hk) tk hg c.g c.kp c.bd ha hdb he hpl
end
section
variable {X : Cx} {b : Bg} {W : WX} {tg iter elt c : Expr} {ifs : List Expr} {scope : Scope} {own : List (Str × Nat)} {pos spos py : Pos} {ti : VIt} {js : List Nat} {g : VTg} {tt : VB} {te : VT} {i : Nat} {y : Str} {t : VT}
theorem LE.new : ∀ σ H Q, LE b W (RE b) t σ H Q → LE b W (RN b) t σ H Q := fun σ H Q ⟨Zo, Z, ρ, Qd, Ed, v, q, l, m⟩ => ⟨Zo, Z, ρ, Qd, Ed, v, q, fun u H' d x g ⟨a, e, n, o⟩ => by
  subst e
  exact l _ H' d x g (o.rp (fun _ z => .inl z) (v.fresh n)), m⟩
/-- name = [..] on one line, shared from then on -/
theorem vs_setLcE (hc : X.calm = true) (hN : X.N.Nodup) (hy : X.N[i]? = some y) (hyl : X.env.scope.names.lookup y = some .local) (hsw : swapsWith (.ListComp elt [⟨tg, iter, ifs, 0⟩] scope pos) (some (.Name y py)) spos.line X.env = pure true)
    (hi : VIb X b W tg iter ti) (ok : BlkOk X.N X.env.scope scope own) (hjs : ∀ j ∈ js, j ∈ own.map (·.2))
    (hg : ∀ (s : Shared) (H : Hp) (C : Addr) (cl : List (Str × Addr)) (fp : List Addr), VG (X.blk s H scope (compEnvC scope cl C X.env) fp) b tg js g) (ht : ∀ (s : Shared) (H : Hp) (C : Addr) (cl : List (Str × Addr)) (fp : List Addr), VTs (X.blk s H scope (compEnvC scope cl C X.env) fp) b ifs tt)
    (he : ∀ (s : Shared) (H : Hp) (C : Addr) (cl : List (Str × Addr)) (fp : List Addr), VE (X.blk s H scope (compEnvC scope cl C X.env) fp) b noW elt te) (hs : ∀ x, foldedSetIterable iter X.env x = pure x := by intro _; rfl) :
    VSt X b W (.Assign [.Name y py] (.ListComp elt [⟨tg, iter, ifs, 0⟩] scope pos) spos) (sSet i (vLc (own.map (·.2)) ti g tt te)) :=
  vs_set (ps_setLc hc hN hy hyl hsw hi ok hg ht he hs) fun σ H Q q => lc_sound hjs σ H Q (LE.new σ H Q q)
end
end VL
set_option Elab.async false
set_option linter.all false
set_option maxRecDepth 100000
set_option maxHeartbeats 4000000
namespace VL
open PySem PySem.Spec PyProof.Rows L2
@[simp] theorem szl : sizeLine = 16777216 := sizeLine_eq
@[simp] def asB : D → (Bool → Prop) → Prop
  | .py (.bool k), Q => Q k
  | _, _ => False
@[simp] def asI : D → (Int → Prop) → Prop
  | .py (.int k), Q => Q k
  | _, _ => False
@[simp] def asP : D → (PyData → Prop) → Prop
  | .py k, Q => Q k
  | _, _ => False
@[simp 2000] theorem ex_bool (d : D) (Q : Bool → Prop) : (∃ k, d = .py (.bool k) ∧ Q k) ↔ asB d Q := by
  refine ⟨fun ⟨k, e, q⟩ => by rw [e]; exact q, fun h => ?_⟩
  match d, h with
  | .py (.bool k), h => exact ⟨k, rfl, h⟩
@[simp 2000] theorem ex_int (d : D) (Q : Int → Prop) : (∃ k, d = .py (.int k) ∧ Q k) ↔ asI d Q := by
  refine ⟨fun ⟨k, e, q⟩ => by rw [e]; exact q, fun h => ?_⟩
  match d, h with
  | .py (.int k), h => exact ⟨k, rfl, h⟩
@[simp 2000] theorem ex_py (d : D) (Q : PyData → Prop) : (∃ k, d = .py k ∧ Q k) ↔ asP d Q := by
  refine ⟨fun ⟨k, e, q⟩ => by rw [e]; exact q, fun h => ?_⟩
  match d, h with
  | .py k, h => exact ⟨k, rfl, h⟩
@[simp 2000] theorem ex_pys (ds : List D) (Q : List PyData → Prop) : (∃ ps, pys ds = some ps ∧ Q ps) ↔ asO (pys ds) Q := by
  refine ⟨fun ⟨k, e, q⟩ => by rw [e]; exact q, asO_ex⟩
/-! ### comprehensions, loops: how their readings are met -/
/-- one turn of a comprehension -/
def lcStep (g : VTg) (tt : VB) (te : VT) (d : D) (ρ : VEnv) (k : Option PyData → Prop) : Prop :=
  g d ρ fun ρ1 => tt ρ1 (fun b => if b = true then te ρ1 (fun y => ∃ p, y = .py p ∧ k (some p)) noE else k none) noE
section
variable {g : VTg} {tt : VB} {te : VT} {ρ : VEnv} {Q : D → Prop}
theorem lcGo_cons {d : D} {ds : List D} {acc : List PyData} (h : lcStep g tt te d ρ fun o => match o with
    | some p => acc.length < sizeLine ∧ lcGo g tt te Q ds (acc ++ [p]) ρ
    | none => lcGo g tt te Q ds acc ρ) : lcGo g tt te Q (d :: ds) acc ρ := h
end
section
variable {g : VTg} {tb : VS} {De : VEnds}
/-- a loop by its turns: Iv ahead of turn i -/
theorem for_inv (Iv : Nat → VEnv → Prop) {xs : List PyData} (h : ∀ i x ρ, xs[i]? = some x → Iv i ρ → ∀ nx ct : VEnv → Prop, (∀ ρ', Iv (i + 1) ρ' → nx ρ' ∧ ct ρ') → g (.py x) ρ fun ρ1 => tb ρ1 ⟨nx, De.rt, De.nx, ct, De.ex, De.ro⟩) (hd : ∀ ρ, Iv xs.length ρ → De.nx ρ) :
    ∀ {ρ : VEnv}, Iv 0 ρ → forGo g tb (xs.map D.py) ρ De := by
  have go : ∀ (n : Nat) (ρ : VEnv), Iv n ρ → n ≤ xs.length → forGo g tb ((xs.drop n).map D.py) ρ De := by
    intro n
    induction hk : xs.length - n generalizing n with
    | zero =>
      intro ρ iv hn
      have e : n = xs.length := by omega
      subst e
      rw [List.drop_length]
      exact hd ρ iv
    | succ m ih =>
      intro ρ iv hn
      have hlt : n < xs.length := by omega
      rw [List.drop_eq_getElem_cons hlt, List.map_cons]
      exact h n xs[n] ρ (List.getElem?_eq_getElem hlt) iv _ _ fun ρ' iv' => ⟨ih (n + 1) (by omega) ρ' iv' hlt, ih (n + 1) (by omega) ρ' iv' hlt⟩
  intro ρ iv
  have := go 0 ρ iv (Nat.zero_le _)
  rwa [List.drop_zero] at this
end
/-! ### plain data -/
@[simp] theorem eqv_lnil (xs : List PyData) : (PyData.list xs).eqv (.list []) = xs.isEmpty := by cases xs <;> rfl
@[simp] theorem eqv_tnil (xs : List PyData) : (PyData.tuple xs).eqv (.tuple []) = xs.isEmpty := by cases xs <;> rfl
@[simp] theorem eqv_lt (xs ys : List PyData) : (PyData.list xs).eqv (.tuple ys) = false := rfl
@[simp] theorem eqv_tl (xs ys : List PyData) : (PyData.tuple xs).eqv (.list ys) = false := rfl
@[simp] theorem eqv_ii (i j : Int) : (PyData.int i).eqv (.int j) = (i == j) := rfl
@[simp] theorem eqv_ss (i j : Str) : (PyData.str i).eqv (.str j) = (i == j) := rfl
@[simp] theorem plain_none : PyData.none.plain = true := rfl
@[simp] theorem plain_bool (k : Bool) : (PyData.bool k).plain = true := rfl
@[simp] theorem plain_int (i : Int) : (PyData.int i).plain = true := rfl
@[simp] theorem plain_str (i : Str) : (PyData.str i).plain = true := rfl
@[simp] theorem plain_list (xs : List PyData) : (PyData.list xs).plain = PyData.plainAll xs := by simp only [PyData.plain]
@[simp] theorem plain_tuple (xs : List PyData) : (PyData.tuple xs).plain = PyData.plainAll xs := by simp only [PyData.plain]
@[simp] theorem plainAll_nil : PyData.plainAll [] = true := rfl
@[simp] theorem plainAll_cons (x : PyData) (xs : List PyData) : PyData.plainAll (x :: xs) = (x.plain && PyData.plainAll xs) := by simp only [PyData.plainAll]
@[simp] theorem plainAll_ints (xs : List Int) : PyData.plainAll (xs.map PyData.int) = true := plain_ints xs
@[simp] theorem depth_nil : (PyData.list []).depth = 1 := rfl
@[simp] theorem depth_tnil : (PyData.tuple []).depth = 1 := rfl
@[simp] theorem depth_int (i : Int) : (PyData.int i).depth = 0 := rfl
@[simp] theorem depth_str (i : Str) : (PyData.str i).depth = 0 := rfl
@[simp] theorem depth_none : PyData.none.depth = 0 := rfl
@[simp] theorem depth_bool (k : Bool) : (PyData.bool k).depth = 0 := rfl
@[simp] theorem depth_list (xs : List PyData) : (PyData.list xs).depth = PyData.depthAll xs + 1 := by simp only [PyData.depth]
@[simp] theorem depth_tuple (xs : List PyData) : (PyData.tuple xs).depth = PyData.depthAll xs + 1 := by simp only [PyData.depth]
@[simp] theorem depthAll_nil : PyData.depthAll [] = 0 := rfl
@[simp] theorem depthAll_cons (x : PyData) (xs : List PyData) : PyData.depthAll (x :: xs) = max x.depth (PyData.depthAll xs) := by simp only [PyData.depthAll]
end VL
namespace VL
open PySem PySem.Spec PyProof.Rows L2
@[simp] theorem cpow_iff (i j : Int) : CPow i j ↔ (0 ≤ j ∧ j ≤ 1000000 ∧ i.natAbs < 2 ^ 64) := Iff.rfl
@[simp] theorem cdivn_iff (i j : Int) : CDivN i j ↔ (j ≠ 0 ∧ j.natAbs < 1073741824) := Iff.rfl
@[simp] theorem cmul_iff (i j : Int) : CMul i j ↔ ((-(2 ^ 64) < i ∧ i < 2 ^ 64) ∨ (-(2 ^ 64) < j ∧ j < 2 ^ 64)) := Iff.rfl
end VL
namespace VL
open PySem PySem.Spec PyProof.Rows L2
theorem atI_ok {α : Type} {xs : List α} {i : Int} (h0 : 0 ≤ i) (h1 : i < xs.length) : ∃ d, atI xs i = some d ∧ d ∈ xs := by
  obtain ⟨j, rfl⟩ := Int.eq_ofNat_of_zero_le h0
  have hj : j < xs.length := by omega
  exact ⟨xs[j], atI_nat (List.getElem?_eq_getElem hj), List.getElem_mem hj⟩
@[simp] theorem rangeP_len (lo : Int) (n : Nat) : (rangeP lo n).length = n := by simp [rangeP]
end VL
set_option Elab.async false
set_option linter.all false
set_option maxRecDepth 100000
set_option maxHeartbeats 4000000
namespace VL
open PySem PySem.Spec PyProof.Rows L2
/-! ### the law: the first statement makes the bag, the rest is read over values -/
theorem pss_ex {X : Cx} {sts : List Stmt} {α : Type} {t : α → TS} (h : ∀ x, PSs X sts (t x)) : PSs X sts (fun D σ H => ∃ x, t x D σ H) := ⟨fun pins s σ H D I ⟨x, q⟩ => (h x).run pins s σ H D I q⟩
def spLaw (K : PySem.W.Frag) : Sp := fun vs H Q _ => ∃ (a : Addr) (ns : List Int), vs = [.ref a] ∧ SqL K H a (ns.map V.int) ∧ ns.length ≤ 63 ∧ ∀ H', Q (.bl true) H'
/-- the names' values behind the first statement: the bag in slot i -/
def envBag (n i : Nat) (r : Addr) : VEnv := (List.replicate n Slot.un).set i (.shr (.raw (.ref r)))
abbrev isTrue' : D → Prop := fun d => d = .py (.bool true)
theorem envBag_at {n i j : Nat} {r : Addr} {s : Slot} (h : (envBag n i r)[j]? = some s) : s = .un ∨ (j = i ∧ s = .shr (.raw (.ref r))) := by
  unfold envBag at h
  by_cases e : i = j
  · subst e
    by_cases hn : i < n
    · rw [List.getElem?_set_self (by simpa using hn)] at h; cases h; exact .inr ⟨rfl, rfl⟩
    · rw [List.getElem?_eq_none (by simp; omega)] at h; cases h
  · rw [List.getElem?_set_ne e, List.getElem?_replicate] at h
    split at h
    · cases h; exact .inl rfl
    · cases h
section
variable {P : Program} {w : World} {K : PySem.W.Frag} {mg : Str → Option Value} {base : Heap} {k k0 : Nat} {st : Stmt} {f fo : Addr} {fd fdo : FuncData} {N : List Str}
end
end VL
set_option Elab.async false
set_option linter.all false
set_option maxRecDepth 100000
set_option maxHeartbeats 4000000
namespace VL
open PySem PySem.Spec PyProof.Rows L2 HT
/-! ### slices as take and drop -/
theorem cutL_take {α : Type} (xs : List α) {x : Int} (h : 0 ≤ x) : cutL xs none (some x) = xs.take x.toNat := by
  simp only [cutL, HT.sIx]
  rw [if_neg (by omega), List.drop_zero, Nat.sub_zero]
  by_cases c : x.toNat ≤ xs.length
  · rw [Nat.min_eq_left c]
  · rw [Nat.min_eq_right (by omega), List.take_length, List.take_of_length_le (by omega)]
theorem cutL_drop {α : Type} (xs : List α) {x : Int} (h : 0 ≤ x) : cutL xs (some x) none = xs.drop x.toNat := by
  simp only [cutL, HT.sIx]
  rw [if_neg (by omega)]
  by_cases c : x.toNat ≤ xs.length
  · rw [Nat.min_eq_left c, List.take_of_length_le (by rw [List.length_drop]; omega)]
  · rw [Nat.min_eq_right (by omega), List.drop_length, List.take_nil, List.drop_of_length_le (by omega)]
end VL
set_option Elab.async false
set_option linter.all false
set_option maxRecDepth 100000
set_option maxHeartbeats 4000000
namespace VL
open PySem PySem.Spec PyProof.Rows L2 HT
/-! ### the facts of a def, for the join -/
structure DefK (K : PySem.W.Frag) (x : Str) (st : Stmt) : Prop where
  ex : ∃ (f : Addr) (oc kV doc pm cdv ct : Value) (od an : Option Addr) (osl : Array (Option Value)), PySem.W.nsIn K mainGlobals x = some (some (.ref f)) ∧ K.lookup f = some ⟨oc, od, .func (PySem.W.fnOf x x (defArgs st) (defBody st) (defScope st) .none kV doc pm an cdv ct), osl⟩ ∧ PySem.W.codeIn K cdv x = true ∧ PySem.W.keepIn K (.ref f) = true
theorem defK {K : PySem.W.Frag} {x : Str} {st : Stmt} {f : Addr} {oc kV doc pm cdv ct : Value} {od an : Option Addr} {osl : Array (Option Value)} (a : PySem.W.nsIn K mainGlobals x = some (some (.ref f)))
    (l : K.lookup f = some ⟨oc, od, .func (PySem.W.fnOf x x (defArgs st) (defBody st) (defScope st) .none kV doc pm an cdv ct), osl⟩) (c : PySem.W.codeIn K cdv x = true) (k : PySem.W.keepIn K (.ref f) = true) : DefK K x st := ⟨f, oc, kV, doc, pm, cdv, ct, od, an, osl, a, l, c, k⟩
theorem DefK.use {K : PySem.W.Frag} {x : Str} {st : Stmt} {h : Heap} {mg : Str → Option Value} (d : DefK K x st) (X : K.In h) (G : h.Ns mainGlobals mg) : ∃ (f : Addr) (fd : FuncData), Fun K x x st f fd ∧ mg x = some (.ref f) ∧ PySem.W.keepIn K (.ref f) = true ∧ fd.defaults = .none := by
  obtain ⟨f, oc, kV, doc, pm, cdv, ct, od, an, osl, a, l, c, k⟩ := d.ex
  exact ⟨f, _, fun_mk l c k, PySem.W.mg_of X G a, k, rfl⟩
end VL
set_option Elab.async false
set_option linter.all false
set_option maxRecDepth 100000
set_option maxHeartbeats 4000000
namespace VL
open PySem PySem.Spec PyProof.Rows L2 HT
/-! ### an owned list is changed by a method -/
def MutD (b : Bg) (r : V → List V → Hp → VK → Prop) (g : List PyData → List D → (D → List PyData → Prop) → Prop) : Prop :=
  ∀ (Z : Addr → Prop) (H : Hp) (a : Addr) (xs : List V) (vs : List V) (p : List PyData) (ds : List D) (Q : VK) (Qd : D → List PyData → Prop), H a = some (.lst xs) → Rqs Z H xs p → Rps b Z H vs ds → g p ds Qd →
    (∀ v ys q dv, Rqs Z H ys q → Rp b Z H v dv → Qd dv q → Q v (upd H a (.lst ys))) → r (.ref a) vs H Q
@[simp] def sMut (i : Nat) (g : List PyData → List D → (D → List PyData → Prop) → Prop) (ta : VA) : VS := fun ρ De => ∃ p, ρ[i]? = some (.own (.py (.list p))) ∧ ta ρ (fun ds => g p ds fun _ q => De.nx (ρ.set i (.own (.py (.list q))))) (De.ex ρ)
section
variable {X : Cx} {b : Bg} {W : WX} {o e : Expr} {es : List Expr} {ta : VA} {i : Nat} {name : Str} {id : String} {apos cpos pos : Pos} {r : V → List V → Hp → VK → Prop} {g : List PyData → List D → (D → List PyData → Prop) → Prop}
theorem vs_mut (slot : PySem.Slot "list" name id) (hty : typeOf (.builtin id) = pure (.type "method_descriptor")) (hm : MtR X id r) (hd : MutD b r g) (ho : PE X o (tVar i)) (ha : VAs X b W (e :: es) ta)
    (hbase : attributeBase o name X.env (eval o X.env) = eval o X.env := by rfl)
    (hfew : ((backTo cpos (starEach (e :: es) X.env)).all (fun x => !x.1) && (backToKw cpos (keywordEach [] X.env)).all (fun x => x.1.isSome)
      && decide ((e :: es).length + ([] : List Keyword).length + (if ([] : List Keyword).isEmpty then 0 else 1) < 30)) = true := by rfl)
    (hline : (apos.endLine == cpos.line) = true := by rfl) (hs : starEach (e :: es) X.env = (false, eval e X.env) :: starEach es X.env := by rfl) (hplain : (backTo cpos (starEach es X.env)).any (·.1) = false := by rfl)
    (hsw : swapsWith (.Call (.Attribute o name apos) (e :: es) [] cpos) none pos.line X.env = pure false := by rfl) :
    VSt X b W (.Expr (.Call (.Attribute o name apos) (e :: es) [] cpos) pos) (sMut i g ta) :=
  ps_mono (ps_expr (pe_bm PySem.F.plainAttrs_list slot hty hm ho ha hbase hfew hline hs hplain) hsw) fun Dn σ H ⟨H0, M, Zo, Z, ρ, De, f, ⟨p, e1, q⟩, l⟩ => by
    obtain ⟨a, h1, h2, h3, xs, h4, h5⟩ := f.v.own i _ e1
    refine ⟨.ref a, h1, .inl ⟨rfl, xs, SqL.of h4⟩, Zo, Z, ρ, _, _, f.v, q, fun vs H' ds x g1 r1 q' => ?_, l.er f⟩
    have f' := f.ex x g1
    obtain ⟨a', h1', h2', h3', xs', h4', h5'⟩ := f'.v.own i _ e1
    rw [h1] at h1'; cases h1'
    refine hd Z H' a xs' vs p ds _ _ h4' h5' r1 q' fun v ys pq dv ry rv q2 => ?_
    exact l.nx _ _ _ _ (f'.mut (d' := .py (.list pq)) e1 h1 ⟨ys, upd_same, ry.mono (fun c z => .inl z) fun c u e n => by
      rw [upd_ne (fun w => n (by rw [w]; exact h2))]
      exact e⟩) q2
/-- append -/
@[simp] def gApp : List PyData → List D → (D → List PyData → Prop) → Prop
  | p, [.py x], Q => p.length < sizeLine ∧ Q (.py .none) (p ++ [x])
  | _, _, _ => False
theorem rd_app : MutD b rAppend gApp := by
  intro Z H a xs vs p ds Q Qd h rx rv g k
  match ds, g, rv with
  | [.py x], ⟨hl, q⟩, .cons (v := v) rv .nil => exact ⟨a, xs, v, rfl, rfl, h, by rw [rx.length]; exact hl, k _ _ _ (.py .none) (rx.append (.cons rv .nil)) (Rq.non : Rq Z H .non .none) q⟩
theorem vs_app (ho : PE X o (tVar i)) (ha : VAs X b W [e] ta) (hbase : attributeBase o "append" X.env (eval o X.env) = eval o X.env := by rfl)
    (hfew : ((backTo cpos (starEach [e] X.env)).all (fun x => !x.1) && (backToKw cpos (keywordEach [] X.env)).all (fun x => x.1.isSome)
      && decide ([e].length + ([] : List Keyword).length + (if ([] : List Keyword).isEmpty then 0 else 1) < 30)) = true := by rfl)
    (hline : (apos.endLine == cpos.line) = true := by rfl) (hs : starEach [e] X.env = (false, eval e X.env) :: starEach [] X.env := by rfl) (hplain : (backTo cpos (starEach [] X.env)).any (·.1) = false := by rfl)
    (hsw : swapsWith (.Call (.Attribute o "append" apos) [e] [] cpos) none pos.line X.env = pure false := by rfl) :
    VSt X b W (.Expr (.Call (.Attribute o "append" apos) [e] [] cpos) pos) (sMut i gApp ta) :=
  vs_mut PySem.F.slot_list_append PySem.F.type_list_append mt_append rd_app ho ha hbase hfew hline hs hplain hsw
end
end VL
set_option Elab.async false
set_option linter.all false
set_option maxRecDepth 100000
set_option maxHeartbeats 4000000
namespace VL
open PySem PySem.Spec PyProof.Rows L2 HT
/-! ### dicts with keys int or text: read, get, put -/
def keyOf : PyData → Option Key
  | .int i => some (.inl i)
  | .str x => some (.inr x)
  | _ => none
@[simp] theorem keyOf_kD (k : Key) : keyOf (kD k) = some k := by cases k <;> rfl
def getD (ds : List (PyData × PyData)) (k : Key) : Option PyData := (ds.find? fun p => decide (keyOf p.1 = some k)).map (·.2)
def putD (ds : List (PyData × PyData)) (k : Key) (x : PyData) : List (PyData × PyData) :=
  if (ds.any fun p => decide (keyOf p.1 = some k)) = true then ds.map (fun p => if keyOf p.1 = some k then (p.1, x) else p) else ds ++ [(kD k, x)]
section
variable {Z : Addr → Prop} {H : Hp}
theorem Rqk.any {k : Key} : ∀ {kvs : List (Key × V)} {ds : List (PyData × PyData)}, Rqk Z H kvs ds → (kvs.any fun kv => decide (kv.1 = k)) = (ds.any fun p => decide (keyOf p.1 = some k))
  | _, _, .nil => rfl
  | _, _, .cons (k := k') r t => by
    rw [List.any_cons, List.any_cons, Rqk.any t]
    simp [-kD]
theorem Rqk.get {k : Key} : ∀ {kvs : List (Key × V)} {ds : List (PyData × PyData)}, Rqk Z H kvs ds → (valV kvs k = none ∧ getD ds k = none) ∨ ∃ v d, valV kvs k = some v ∧ getD ds k = some d ∧ Rq Z H v d
  | _, _, .nil => .inl ⟨rfl, rfl⟩
  | _, _, .cons (k := k') (v := v) (d := d) r t => by
    by_cases e : k' = k
    · exact .inr ⟨v, d, valV_pos e, by simp [-kD, getD, List.find?_cons, e], r⟩
    · have h1 : ∀ r, valV ((k', v) :: r) k = valV r k := fun r => valV_neg e
      have h2 : ∀ ds, getD ((kD k', d) :: ds) k = getD ds k := fun ds => by simp [-kD, getD, List.find?_cons, e]
      rcases Rqk.get (k := k) t with ⟨a, c⟩ | ⟨v', d', a, c, q⟩
      · exact .inl ⟨by rw [h1]; exact a, by rw [h2]; exact c⟩
      · exact .inr ⟨v', d', by rw [h1]; exact a, by rw [h2]; exact c, q⟩
theorem Rqk.map {k : Key} {v : V} {x : PyData} (rx : Rq Z H v x) : ∀ {kvs : List (Key × V)} {ds : List (PyData × PyData)}, Rqk Z H kvs ds → Rqk Z H (kvs.map fun kv => if kv.1 = k then (kv.1, v) else kv) (ds.map fun p => if keyOf p.1 = some k then (p.1, x) else p)
  | _, _, .nil => .nil
  | _, _, .cons (k := k') r t => by
    rw [List.map_cons, List.map_cons]
    by_cases e : k' = k
    · simp only [keyOf_kD, e, if_true]
      exact .cons rx (Rqk.map rx t)
    · simp only [keyOf_kD, Option.some.injEq, e, if_false]
      exact .cons r (Rqk.map rx t)
theorem Rqk.snoc {k : Key} {v : V} {x : PyData} (rx : Rq Z H v x) : ∀ {kvs : List (Key × V)} {ds : List (PyData × PyData)}, Rqk Z H kvs ds → Rqk Z H (kvs ++ [(k, v)]) (ds ++ [(kD k, x)])
  | _, _, .nil => .cons rx .nil
  | _, _, .cons r t => .cons r (Rqk.snoc rx t)
theorem Rqk.put {k : Key} {v : V} {x : PyData} {kvs : List (Key × V)} {ds : List (PyData × PyData)} (rx : Rq Z H v x) (t : Rqk Z H kvs ds) : Rqk Z H (putK kvs k v) (putD ds k x) := by
  unfold putK putD
  rw [t.any]
  split
  · exact t.map rx
  · exact t.snoc rx
end
end VL
set_option Elab.async false
set_option linter.all false
set_option maxRecDepth 100000
set_option maxHeartbeats 4000000
namespace VL
open PySem PySem.Spec PyProof.Rows L2 HT
section
variable {b : Bg} {Zo Z : Addr → Prop} {σ : L2.St} {H H' : Hp} {ρ : VEnv}
theorem VOk.rqk (v : VOk b Zo Z σ H ρ) (x : Ex b H H') {u : List (Key × V)} {d : List (PyData × PyData)} (r : Rqk Z H u d) : Rqk Z H' u d := r.mono (fun a z => .inl z) (v.keep x)
/-- a borrowed dict -/
theorem VOk.rdict (v : VOk b Zo Z σ H ρ) {u : V} {ds : List (PyData × PyData)} (r : Rb b Z H u (.py (.dict ds))) : ∃ a kvs, u = .ref a ∧ H a = some (.dK kvs) ∧ ¬ b.B a ∧ Rqk Z H kvs ds := by
  rcases r with r | ⟨a, e, nb, _, kvs, h, rk⟩
  · have r : Rq Z H u (.dict ds) := r
    cases r with
    | dct h n rk => exact ⟨_, _, rfl, h, v.nb n, rk⟩
  · exact ⟨a, kvs, e, h, nb, rk⟩
theorem Rq.key {u : V} {p : PyData} {k : Key} (r : Rq Z H u p) (e : keyOf p = some k) : u = kV k := by
  cases p <;> simp only [keyOf] at e <;> cases e
  · cases r; rfl
  · cases r; rfl
end
@[simp] def vDGet2 (td ty tx : VT) : VT := fun ρ Q E => td ρ (fun d => ∃ ds, d = .py (.dict ds) ∧ ty ρ (fun y => ∃ k kk, y = .py k ∧ keyOf k = some kk ∧ tx ρ (fun z => ∃ p, z = .py p ∧ Q (.py ((getD ds kk).getD p))) E) E) E
@[simp] def vDGet1 (td ty : VT) : VT := fun ρ Q E => td ρ (fun d => ∃ ds, d = .py (.dict ds) ∧ ty ρ (fun y => ∃ k kk, y = .py k ∧ keyOf k = some kk ∧ Q (.py ((getD ds kk).getD .none))) E) E
@[simp] def vDIx (td ty : VT) : VT := fun ρ Q E => td ρ (fun d => ∃ ds, d = .py (.dict ds) ∧ ty ρ (fun y => ∃ k kk x, y = .py k ∧ keyOf k = some kk ∧ getD ds kk = some x ∧ Q (.py x)) E) E
section
variable {X : Cx} {b : Bg} {W : WX} {o e f : Expr} {td ty tx : VT} {apos cpos pos pos' : Pos} {i : Nat}
theorem ve_dget2 (hu : X.A.units + 1 < cLine) (ho : VX X b W o td) (he : VE X b W e ty) (hf : VE X b W f tx) (m : M2 X o "get" apos e f cpos) : VE X b W (.Call (.Attribute o "get" apos) [e, f] [] cpos) (vDGet2 td ty tx) :=
  pe_mono (pe_dget2 hu ho he hf m) fun σ H Q ⟨Zo, Z, ρ, Qd, Ed, v, q, l, me⟩ => ⟨Zo, Z, ρ, _, Ed, v, q, fun x H1 d x1 g1 r1 ⟨ds, ed, q1⟩ => by
    subst ed
    have v1 := v.ex x1 g1
    obtain ⟨a, kvs, rfl, h, nb, rk⟩ := v1.rdict r1
    refine ⟨a, rfl, .inl ⟨kvs, .inl h⟩, Zo, Z, ρ, _, Ed, v1, q1, fun y H2 dy x2 g2 r2 ⟨k, kk, ey, ek, q2⟩ => ?_, fun c y H2 er x2 g2 r2 q2 => me c y H2 er (x1.trans x2) g2 r2 q2⟩
    subst ey
    have v2 := v1.ex x2 g2
    refine ⟨Zo, Z, ρ, _, Ed, v2, q2, fun z H3 dz x3 g3 r3 ⟨p, ez, q3⟩ => ?_, fun c y H3 er x3 g3 r3 q3 => me c y H3 er ((x1.trans x2).trans x3) g3 r3 q3⟩
    subst ez
    have x23 := x2.trans x3
    have h3 := x23 a _ h nb
    have rk3 := v1.rqk x23 rk
    have ek' : y = kV kk := Rq.key (Z := Z) r2 ek
    refine ⟨valV kvs kk, by rw [ek']; exact DGet.k h3, l _ H3 _ (x1.trans x23) g3 ?_ q3⟩
    rcases rk3.get (k := kk) with ⟨e1, e2⟩ | ⟨u, d', e1, e2, ru⟩
    · rw [e1, e2]; exact r3
    · rw [e1, e2]; exact ru, me⟩
theorem ve_dix (hu : X.A.units + 1 < cLine) (ho : VX X b W o td) (he : VE X b W e ty) (hs : NoSl e := by exact fun _ _ => rfl) : VE X b W (.Subscript o e pos) (vDIx td ty) :=
  pe_mono (pe_dget hu ho he hs) fun σ H Q ⟨Zo, Z, ρ, Qd, Ed, v, q, l, me⟩ => ⟨Zo, Z, ρ, _, Ed, v, q, fun x H1 d x1 g1 r1 ⟨ds, ed, q1⟩ => by
    subst ed
    have v1 := v.ex x1 g1
    obtain ⟨a, kvs, rfl, h, nb, rk⟩ := v1.rdict r1
    refine ⟨Zo, Z, ρ, _, Ed, v1, q1, fun y H2 dy x2 g2 r2 ⟨k, kk, w, ey, ek, ew, q2⟩ => ?_, fun c y H2 er x2 g2 r2 q2 => me c y H2 er (x1.trans x2) g2 r2 q2⟩
    subst ey
    have h3 := x2 a _ h nb
    have rk3 := v1.rqk x2 rk
    have ek' : y = kV kk := Rq.key (Z := Z) r2 ek
    rcases rk3.get (k := kk) with ⟨e1, e2⟩ | ⟨u, d', e1, e2, ru⟩
    · rw [ew] at e2; cases e2
    · rw [ew] at e2; cases e2
      exact ⟨a, u, rfl, by rw [ek', ← e1]; exact DGet.k h3, l _ H2 (.py w) (x1.trans x2) g2 ru q2⟩, me⟩
/-- d[k] = x for an owned dict -/
@[simp] def sDPutO (i : Nat) (ty tv : VT) : VS := fun ρ De => ∃ ds, ρ[i]? = some (.own (.py (.dict ds))) ∧ tv ρ (fun x => ∃ p, x = .py p ∧ ty ρ (fun y => ∃ k kk, y = .py k ∧ keyOf k = some kk ∧ ds.length < sizeLine ∧ De.nx (ρ.set i (.own (.py (.dict (putD ds kk p)))))) (De.ex ρ)) (De.ex ρ)
theorem vs_dputO {tv : VT} {value : Expr} (hu : X.A.units + 1 < cLine) (ho : PE X o (tVar i)) (he : VE X b W e ty) (hv : VE X b W value tv) (hs : swapsWith value (some (.Subscript o e pos')) pos.line X.env = pure false := by rfl) :
    VSt X b W (.Assign [.Subscript o e pos'] value pos) (sDPutO i ty tv) :=
  ps_mono (ps_dput hu ho he hv hs) fun Dn σ H ⟨H0, M, Zo, Z, ρ, De, f, ⟨ds, e1, q⟩, l⟩ => by
    refine ⟨Zo, Z, ρ, _, _, f.v, q, fun v H1 dv x1 g1 r1 ⟨p, ep, q1⟩ => ?_, l.er f⟩
    subst ep
    have f1 := f.ex x1 g1
    obtain ⟨a, h1, h2, h3, kvs, h4, h5⟩ := f1.v.own i _ e1
    have nb : ¬ b.B a := fun z => h3 (f1.v.zb a z)
    refine ⟨.ref a, h1, Zo, Z, ρ, _, _, f1.v, q1, fun y H2 dy x2 g2 r2 ⟨k, kk, ey, ek, hl, q2⟩ => ?_, l.er f1⟩
    subst ey
    have f2 := f1.ex x2 g2
    have ek' : y = kV kk := Rq.key (Z := Z) r2 ek
    have h4' := x2 a _ h4 nb
    have h5' := f1.v.rqk x2 h5
    refine ⟨a, _, rfl, by rw [ek']; exact DPut.k h4' (by rw [h5.length]; exact hl), l.nx _ _ _ _ (f2.mut (d' := .py (.dict (putD ds kk p))) e1 h1 ⟨_, upd_same, ?_⟩) q2⟩
    exact (h5'.put (f1.v.rq x2 r1)).mono (fun c z => .inl z) fun c u e n => by
      rw [upd_ne (fun w => n (by rw [w]; exact h2))]
      exact e
end
end VL
set_option Elab.async false
set_option linter.all false
set_option maxRecDepth 100000
set_option maxHeartbeats 4000000
namespace VL
open PySem PySem.Spec PyProof.Rows L2 HT
/-- a constant of the module that is a text -/
theorem ve_gstr {X : Cx} {b : Bg} {W : WX} {pos : Pos} {x : Str} {i : Str} (hg : Gl X x) (hm : ∃ t, X.mg x = some (.str i t)) (hd : (x == ("__debug__" : Str)) = false := by decide) : VE X b W (.Name x pos) (vC (.py (.str i))) := by
  obtain ⟨t, h⟩ := hm
  exact ve_glob (v := .str i) hg h ⟨t, rfl⟩ (fun _ _ => .str i) hd
end VL
set_option Elab.async false
set_option linter.all false
set_option maxRecDepth 100000
set_option maxHeartbeats 4000000
namespace VL
open PySem PySem.Spec PyProof.Rows L2 HT
/-! ### typed data -/
def pN (n : Nat) : PyData := .int (n : Int)
def oN : Option Nat → PyData
  | none => .none
  | some n => .int (n : Int)
@[simp] def tI (gs : List Int) : PyData := .tuple (gs.map PyData.int)
@[simp] def tN (ns : List Nat) : PyData := .tuple (ns.map pN)
theorem map_inj {α β : Type} {f : α → β} (h : ∀ a b, f a = f b → a = b) : ∀ {xs ys : List α}, xs.map f = ys.map f ↔ xs = ys
  | [], [] => ⟨fun _ => rfl, fun _ => rfl⟩
  | [], _ :: _ => by simp
  | _ :: _, [] => by simp
  | x :: xs, y :: ys => by
    rw [List.map_cons, List.map_cons, List.cons.injEq, List.cons.injEq, map_inj h]
    exact ⟨fun ⟨a, b⟩ => ⟨h _ _ a, b⟩, fun ⟨a, b⟩ => ⟨by rw [a], b⟩⟩
theorem pN_inj (a b : Nat) (e : pN a = pN b) : a = b := by unfold pN at e; injection e with e; omega
@[simp] theorem pN_eq {a b : Nat} : pN a = pN b ↔ a = b := ⟨pN_inj a b, fun e => by rw [e]⟩
@[simp] theorem mapI_inj {xs ys : List Int} : xs.map PyData.int = ys.map PyData.int ↔ xs = ys := map_inj fun a b e => by injection e
@[simp] theorem mapN_inj {xs ys : List Nat} : xs.map pN = ys.map pN ↔ xs = ys := map_inj pN_inj
@[simp] theorem oN_inj {a b : Option Nat} : oN a = oN b ↔ a = b := by
  cases a <;> cases b <;> simp [oN]
  omega
theorem atI_map {α β : Type} {f : α → β} {xs : List α} {k : Nat} {x : α} (h : xs[k]? = some x) : atI (xs.map f) (k : Int) = some (f x) := atI_nat (by rw [List.getElem?_map, h]; rfl)
end VL
namespace VL
open PySem PySem.Spec PyProof.Rows L2 HT
theorem getD_putD (ds : List (PyData × PyData)) (k j : Key) (x : PyData) : getD (putD ds k x) j = if j = k then some x else getD ds j := by
  unfold putD
  split
  · rename_i h
    have e : ∀ l : List (PyData × PyData), getD (l.map fun p => if keyOf p.1 = some k then (p.1, x) else p) j = if j = k then (if (l.any fun p => decide (keyOf p.1 = some k)) = true then some x else none) else getD l j := by
      intro l
      induction l with
      | nil => simp [getD]
      | cons p l ih =>
        unfold getD at ih ⊢
        rw [List.map_cons, List.any_cons, List.find?_cons]
        by_cases c : keyOf p.1 = some k
        · by_cases d : j = k
          · subst d; simp [c]
          · have d' : ¬ (some k = some j) := fun z => d (by cases z; rfl)
            have d'' : ¬ (k = j) := fun z => d z.symm
            simp [c, d, d', d''] at ih ⊢
            simpa [c, d, d', d''] using ih
        · by_cases d : keyOf p.1 = some j
          · have d' : ¬ j = k := fun z => c (by rw [d, z])
            simp [c, d, d']
          · have c' : decide (keyOf p.1 = some k) = false := decide_eq_false c
            have d' : decide (keyOf p.1 = some j) = false := decide_eq_false d
            rw [if_neg c, d', List.find?_cons, c', Bool.false_or]
            simp only [d']
            exact ih
    rw [e, h]; simp
  · rename_i h
    unfold getD
    rw [List.find?_append]
    by_cases d : j = k
    · subst d
      have hn : ds.find? (fun p => decide (keyOf p.1 = some j)) = none := by
        rw [List.find?_eq_none]
        intro p hp hc
        exact h (List.any_eq_true.mpr ⟨p, hp, hc⟩)
      simp [hn, -kD]
    · have d' : ¬ (k = j) := fun z => d z.symm
      simp [d, d', -kD]
@[simp] theorem getD_nil (k : Key) : getD [] k = none := rfl
end VL
set_option Elab.async false
set_option linter.all false
set_option maxRecDepth 100000
set_option maxHeartbeats 4000000
namespace VL
open PySem PySem.Spec PyProof.Rows L2
/-! ### data that is shown in few signs -/
structure Sw (w d : Nat) (p : PyData) : Prop where
  sh : p.showable = true
  ls : p.leavesShort 60 = true
  wt : p.weight ≤ w
  dp : p.depth ≤ d
instance (w d : Nat) (p : PyData) : Decidable (Sw w d p) := decidable_of_iff (p.showable = true ∧ p.leavesShort 60 = true ∧ p.weight ≤ w ∧ p.depth ≤ d) ⟨fun ⟨a, b, c, e⟩ => ⟨a, b, c, e⟩, fun ⟨a, b, c, e⟩ => ⟨a, b, c, e⟩⟩
end VL
set_option Elab.async false
set_option linter.all false
set_option maxRecDepth 100000
set_option maxHeartbeats 4000000
namespace VL
open PySem PySem.Spec PyProof.Rows L2 HT
/-! ### comprehensions and loops over encoded lists -/
section
variable {g : VTg} {tt : VB} {te : VT} {ρ : VEnv} {Q : D → Prop} {α : Type}
theorem lc_enc (enc : α → PyData) (f : α → Option PyData) : ∀ {L : List α} {acc : List PyData}, (∀ (i : Nat) (x : α), L[i]? = some x → ∀ k, k (f x) → lcStep g tt te (.py (enc x)) ρ k) → acc.length + L.length < 16777216 → Q (.py (.list (acc ++ L.filterMap f))) → lcGo g tt te Q ((L.map enc).map D.py) acc ρ
  | [], acc, _, _, q => by simpa using q
  | x :: xs, acc, h, hl, q => by
    refine lcGo_cons (h 0 x rfl _ ?_)
    have hr : ∀ (i : Nat) (y : α), xs[i]? = some y → ∀ k, k (f y) → lcStep g tt te (.py (enc y)) ρ k := fun i y hy => h (i + 1) y (by simpa using hy)
    rw [List.length_cons] at hl
    rw [List.filterMap_cons] at q
    cases e : f x with
    | none => rw [e] at q; exact lc_enc enc f hr (by omega) q
    | some p =>
      rw [e] at q
      refine ⟨by rw [szl]; omega, lc_enc enc f hr (by rw [List.length_append, List.length_singleton]; omega) ?_⟩
      rw [List.append_assoc]
      exact q
theorem filterMap_if (p : α → Bool) (e : α → PyData) : ∀ L : List α, L.filterMap (fun x => if p x = true then some (e x) else none) = (L.filter p).map e
  | [] => rfl
  | x :: xs => by
    rw [List.filterMap_cons, filterMap_if p e xs, List.filter_cons]
    cases p x <;> simp
theorem lc_encF (enc : α → PyData) (p : α → Bool) (e : α → PyData) {L : List α} (h : ∀ (i : Nat) (x : α), L[i]? = some x → ∀ k, (p x = true → k (some (e x))) → (p x = false → k none) → lcStep g tt te (.py (enc x)) ρ k)
    (hl : L.length < 16777216) (q : Q (.py (.list ((L.filter p).map e)))) : lcGo g tt te Q ((L.map enc).map D.py) [] ρ := by
  refine lc_enc enc (fun x => if p x = true then some (e x) else none) (fun i x hx k hk => h i x hx k (fun c => by simpa [c] using hk) (fun c => by simpa [c] using hk)) (by simpa using hl) ?_
  rw [filterMap_if, List.nil_append]
  exact q
theorem lc_encM (enc : α → PyData) (e : α → PyData) {L : List α} (h : ∀ (i : Nat) (x : α), L[i]? = some x → ∀ k, k (some (e x)) → lcStep g tt te (.py (enc x)) ρ k)
    (hl : L.length < 16777216) (q : Q (.py (.list (L.map e)))) : lcGo g tt te Q ((L.map enc).map D.py) [] ρ := by
  refine lc_enc enc (fun x => some (e x)) h (by simpa using hl) ?_
  rw [List.nil_append, List.filterMap_eq_map']
  exact q
end
section
variable {g : VTg} {tb : VS} {De : VEnds} {α : Type}
theorem for_enc (enc : α → PyData) (Iv : Nat → VEnv → Prop) {L : List α} {ρ : VEnv} (h0 : Iv 0 ρ) (h : ∀ i x ρ, L[i]? = some x → Iv i ρ → ∀ nx ct : VEnv → Prop, (∀ ρ', Iv (i + 1) ρ' → nx ρ' ∧ ct ρ') → g (.py (enc x)) ρ fun ρ1 => tb ρ1 ⟨nx, De.rt, De.nx, ct, De.ex, De.ro⟩) (hd : ∀ ρ, Iv L.length ρ → De.nx ρ) :
    forGo g tb ((L.map enc).map D.py) ρ De := by
  refine for_inv Iv (fun i x ρ hx iv nx ct hn => ?_) (fun ρ iv => hd ρ (by simpa using iv)) h0
  rw [List.getElem?_map] at hx
  cases e : L[i]? with
  | none => rw [e] at hx; cases hx
  | some y => rw [e] at hx; cases hx; exact h i y ρ e iv nx ct hn
end
def encR (lo : Int) (k : Nat) : PyData := .int (lo + (k : Nat))
theorem rangeP_eq (lo : Int) (n : Nat) : rangeP lo n = (List.range n).map (encR lo) := rfl
@[simp] theorem encR0 (k : Nat) : encR 0 k = .int (k : Int) := by unfold encR; rw [Int.zero_add]
def encE {α : Type} (enc : α → PyData) (p : α × Nat) : PyData := .tuple [.int (p.2 : Nat), enc p.1]
@[simp] theorem encE_eq {α : Type} (enc : α → PyData) (x : α) (n : Nat) : encE enc (x, n) = .tuple [.int (n : Nat), enc x] := rfl
theorem enumP_enc {α : Type} (enc : α → PyData) (L : List α) : enumP (L.map enc) = L.zipIdx.map (encE enc) := by
  unfold enumP encE
  rw [List.zipIdx_map, List.map_map]
  rfl
theorem zipIdx_at {α : Type} {L : List α} {i : Nat} {p : α × Nat} (h : L.zipIdx[i]? = some p) : ∃ x, L[i]? = some x ∧ p = (x, i) := by
  rw [List.getElem?_zipIdx] at h
  cases e : L[i]? with
  | none => rw [e] at h; cases h
  | some x => rw [e] at h; cases h; exact ⟨x, rfl, by simp⟩
end VL
set_option Elab.async false
set_option linter.all false
set_option maxRecDepth 100000
set_option maxHeartbeats 4000000
namespace VL
open PySem PySem.Spec PyProof.Rows L2 HT
/-! ### methods of values -/
section
variable {X : Cx} {H : Hp}
end
@[simp] def vMth (k : D → Prop) (g : D → List D → (D → Prop) → Prop) (to : VT) (ta : VA) : VT := fun ρ Q E => to ρ (fun d => k d ∧ ta ρ (fun ds => g d ds Q) E) E
section
variable {X : Cx} {b : Bg} {W : WX} {o e : Expr} {es : List Expr} {to : VT} {ta : VA} {name : Str} {apos cpos : Pos} {k : D → Prop} {g : D → List D → (D → Prop) → Prop}
end
/-! ### texts -/
@[simp] def isS : D → Prop
  | .py (.str _) => True
  | _ => False
/-- how often c stands in l: of one sign -/
@[simp] def gTCount : D → List D → (D → Prop) → Prop
  | .py (.str a), [.py (.str b)], Q => Q (.py (.int (Txt.count a b)))
  | _, _, _ => False
@[simp] def gTJoin : D → List D → (D → Prop) → Prop
  | .py (.str a), [.py (.list xs)], Q => ∃ ys, allS xs = some ys ∧ (ys.map (·.length)).sum + ys.length * a.length ≤ 16777216 ∧ Q (.py (.str (Txt.join a ys)))
  | _, _, _ => False
@[simp] def gTUpper : D → List D → (D → Prop) → Prop
  | .py (.str a), [], Q => a.length ≤ 5592405 ∧ Q (.py (.str (Txt.upper a)))
  | _, _, _ => False
@[simp] def gTSplit : D → List D → (D → Prop) → Prop
  | .py (.str a), [.py (.str b)], Q => (b.length == 0) = false ∧ a.length + 2 ≤ 16777216 ∧ Q (.py (.list ((Txt.split a b).map PyData.str)))
  | _, _, _ => False
end VL
set_option Elab.async false
set_option linter.all false
set_option maxRecDepth 100000
set_option maxHeartbeats 4000000
namespace VL
open PySem PySem.Spec PyProof.Rows L2 HT
/-! ### index by plain data -/
/-- the first place of an equal one -/
def ixOf : List PyData → PyData → Option Nat
  | [], _ => none
  | z :: zs, d => if z.eqv d = true then some 0 else (ixOf zs d).map (· + 1)
section
variable {X : Cx}
end
@[simp] def isSq : D → Prop
  | .py (.list _) => True
  | .py (.tuple _) => True
  | _ => False
@[simp] def gIndex : D → List D → (D → Prop) → Prop
  | .py (.list xs), [.py d], Q => PyData.plainAll xs = true ∧ d.plain = true ∧ (d.depth ≤ 60 ∨ PyData.depthAll xs ≤ 60) ∧ ∃ j, ixOf xs d = some j ∧ Q (.py (.int (j : Nat)))
  | .py (.tuple xs), [.py d], Q => PyData.plainAll xs = true ∧ d.plain = true ∧ (d.depth ≤ 60 ∨ PyData.depthAll xs ≤ 60) ∧ ∃ j, ixOf xs d = some j ∧ Q (.py (.int (j : Nat)))
  | _, _, _ => False
/-- how often: of a text, of a list of ints -/
@[simp] def isCt : D → Prop
  | .py (.str _) => True
  | .py (.list _) => True
  | _ => False
@[simp] def gCount : D → List D → (D → Prop) → Prop
  | .py (.str a), [.py (.str b)], Q => Q (.py (.int (Txt.count a b)))
  | .py (.list xs), [.py (.int k)], Q => ∃ ns, allI xs = some ns ∧ Q (.py (.int (ns.count k : Nat)))
  | _, _, _ => False
end VL
set_option Elab.async false
set_option linter.all false
set_option maxRecDepth 100000
set_option maxHeartbeats 4000000
namespace VL
open PySem PySem.Spec PyProof.Rows L2 HT
/-! ### text * int, text[::-1] -/
def repS (z : Str) (k : Int) : Str := mkS (List.replicate k.toNat (sl z)).flatten
theorem mkS_sl (z : Str) : mkS (sl z) = z := by cases z; simp [mkS, sl]
@[simp] theorem sl_mkS (l : List Nat) : sl (mkS l) = l := by simp [mkS, sl]
@[simp] theorem len_mkS (l : List Nat) : (mkS l).length = l.length := by simp [mkS, Str.length]
theorem slen (z : Str) : (sl z).length = z.length := by simp [sl, Str.length]
def rRepS : R2 := fun x y H Q => ∃ z k, x = .str z ∧ y = .int k ∧ -(2 ^ 63) ≤ k ∧ k < 2 ^ 63 ∧ z.length * k.toNat ≤ 16777216 ∧ Q (.str (repS z k)) H
theorem foldl_app (n : Nat) (a b : Array Nat) : (List.replicate n a).foldl (· ++ ·) b = (b.toList ++ (List.replicate n a.toList).flatten).toArray := by
  induction n generalizing b with
  | zero => simp
  | succ n ih => rw [List.replicate_succ, List.foldl_cons, ih, List.replicate_succ, List.flatten_cons]; simp
theorem op_repS {X : Cx} : OpR X (binaryOp .Mult) rRepS := by
  intro pins s σ H x y v u Q I rx ry ⟨z, k, ex, ey, h1, h2, h3, q⟩
  subst ex ey
  obtain ⟨t, rfl⟩ := rx
  obtain ⟨t2, rfl⟩ := ry
  refine P.mul_str (by rw [decide_eq_false (by omega), decide_eq_false (by omega)]; rfl) (fun c c2 => ?_) (fun c c2 => ?_) ?_
  · intro hgt
    have kp : 0 < k := by omega
    have hz : (z.length : Int) * k ≤ 16777216 := by
      have e : ((z.length * k.toNat : Nat) : Int) ≤ 16777216 := by omega
      have e2 : ((k.toNat : Nat) : Int) = k := by omega
      rw [Int.natCast_mul, e2] at e
      exact e
    have h5 : ((2 ^ 63 - 1 : Int) / k + 1) * k > 2 ^ 63 - 1 := by
      have := Int.lt_ediv_add_one_mul_self (2 ^ 63 - 1) kp
      exact this
    have h6 : ((2 ^ 63 - 1 : Int) / k + 1) * k ≤ (z.length : Int) * k := Int.mul_le_mul_of_nonneg_right (by omega) (by omega)
    omega
  · unfold Builtin.Str.tooLong
    rw [sizeLine_eq]
    exact decide_eq_false (by omega)
  · by_cases c : k < 1
    · rw [if_pos c]
      refine ⟨by show 0 ≤ sizeLine; omega, .str Str.empty, H, I.tok _, ⟨_, rfl⟩, ?_⟩
      have e : repS z k = Str.empty := by
        unfold repS
        have : k.toNat = 0 := by omega
        rw [this]
        rfl
      rw [← e]; exact q
    · rw [if_neg c]
      split
      · rename_i c2
        have e : repS z k = z := by
          unfold repS
          rcases Bool.or_eq_true_iff.mp c2 with c3 | c3
          · have : k = 1 := eq_of_beq c3
            subst this
            show mkS (List.replicate 1 (sl z)).flatten = z
            simp [mkS_sl]
          · have hz : (sl z).length = 0 := by rw [slen]; exact eq_of_beq c3
            have hz' : sl z = [] := List.length_eq_zero_iff.mp hz
            rw [hz']
            have : (List.replicate k.toNat ([] : List Nat)).flatten = [] := by simp
            rw [this, ← hz', mkS_sl]
        refine ⟨.str z, H, I, ⟨_, rfl⟩, ?_⟩
        rw [← e]; exact q
      · refine ⟨?_, .str (repS z k), H, ?_⟩
        · show Array.size _ ≤ sizeLine
          rw [foldl_app, List.size_toArray]
          simp
          rw [Nat.mul_comm]
          have : z.cps.size = z.length := rfl
          rw [this]
          exact h3
        · have e : (⟨(List.replicate k.toNat z.cps).foldl (· ++ ·) #[]⟩ : Str) = repS z k := by
            rw [foldl_app]; rfl
          rw [e]
          exact ⟨I.tok _, ⟨_, rfl⟩, q⟩
section
variable {X : Cx} {b : Bg} {W : WX} {e e1 e2 st : Expr} {t t1 t2 : VT} {tl : VO} {p2 pos : Pos}
@[simp] def gBkA : D → (D → Prop) → Prop
  | .py (.list xs), Q => Q (.py (.list xs.reverse))
  | .py (.tuple xs), Q => Q (.py (.tuple xs.reverse))
  | .py (.str z), Q => z.length ≤ 16777216 ∧ Q (.py (.str (mkS (sl z).reverse)))
  | _, _ => False
@[simp] def vBkA (t : VT) (tl : VO) : VT := fun ρ Q E => t ρ (fun x => tl ρ (fun k => k = some (-1) ∧ gBkA x Q) E) E
/-- products, of a text too -/
@[simp] def gMulA : D → D → (D → Prop) → Prop
  | .py (.int i), .py (.int j), Q => CMul i j ∧ Q (.py (.int (i * j)))
  | .py (.list xs), .py (.int k), Q => (-(2 ^ 63) ≤ k ∧ k < 2 ^ 63 ∧ xs.length * k.toNat ≤ sizeLine) ∧ Q (.py (.list (List.replicate k.toNat xs).flatten))
  | .py (.tuple xs), .py (.int k), Q => (xs ≠ [] ∧ 2 ≤ k ∧ k ≤ 1000 ∧ xs.length ≤ 1000) ∧ Q (.py (.tuple (List.replicate k.toNat xs).flatten))
  | .py (.str z), .py (.int k), Q => (-(2 ^ 63) ≤ k ∧ k < 2 ^ 63 ∧ z.length * k.toNat ≤ 16777216) ∧ Q (.py (.str (repS z k)))
  | _, _, _ => False
theorem rd_mulA : OpD b (RE b) (fun x y H Q => (fun x y H Q => rI CMul (fun i j => .int (i * j)) x y H Q ∨ (fun x y H Q => rRep x y H Q ∨ rRepF X.K x y H Q) x y H Q) x y H Q ∨ rRepS x y H Q) gMulA := by
  intro Z H x y dx dy Q Qd gd rx ry h k
  match dx, dy, h, rx, ry with
  | .py (.int i), .py (.int j), h, rx, ry => exact .inl (rd_mul Z H x y (.py (.int i)) (.py (.int j)) Q Qd gd rx ry h k)
  | .py (.list xs), .py (.int n), h, rx, ry => exact .inl (rd_mul Z H x y (.py (.list xs)) (.py (.int n)) Q Qd gd rx ry h k)
  | .py (.tuple xs), .py (.int n), h, rx, ry => exact .inl (rd_mul Z H x y (.py (.tuple xs)) (.py (.int n)) Q Qd gd rx ry h k)
  | .py (.str z), .py (.int n), ⟨⟨h1, h2, h3⟩, h⟩, rx, ry =>
    obtain rfl := rx.str
    obtain rfl := ry.int
    exact .inr ⟨z, n, rfl, rfl, h1, h2, h3, k _ H (.py (.str _)) Ex.refl gd.g (.str _) h⟩
theorem ve_mulA (h1 : VX X b W e1 t1) (h2 : VX X b W e2 t2) : VE X b W (.BinOp e1 .Mult e2 pos) (vBin gMulA t1 t2) := ve_op (OpR.or (OpR.or op_mul (OpR.or op_rep op_repF)) op_repS) rd_mulA h1 h2
end
/-! ### name op= value -/
@[simp] def gAugAdd : D → D → (D → Prop) → Prop
  | .py (.int i), .py (.int j), Q => Q (.py (.int (i + j)))
  | .py (.str x), .py (.str y), Q => x.length + y.length ≤ 16777216 ∧ Q (.py (.str (x ++ y)))
  | _, _, _ => False
@[simp] def gAugSub : D → D → (D → Prop) → Prop
  | .py (.int i), .py (.int j), Q => Q (.py (.int (i - j)))
  | _, _, _ => False
@[simp] def sAugA (i : Nat) (g : D → D → (D → Prop) → Prop) (t : VT) : VS := fun ρ De => ∃ d0, ρ[i]? = some (.shr d0) ∧ t ρ (fun d => g d0 d fun z => De.nx (ρ.set i (.shr z))) (De.ex ρ)
section
variable {X : Cx} {b : Bg} {W : WX} {e : Expr} {t : VT} {pos pos' : Pos} {i : Nat} {x : Str}
/-- xs[i] = v, an owned list -/
def setAt (xs : List PyData) (k : Int) (p : PyData) : Option (List PyData) := (ixN xs.length k).map fun j => xs.set j p
@[simp] def sStoL (i : Nat) (ty tv : VT) : VS := fun ρ De => ∃ xs, ρ[i]? = some (.own (.py (.list xs))) ∧ tv ρ (fun v => ∃ p, v = .py p ∧ ty ρ (fun y => ∃ k, y = .py (.int k) ∧ ∃ ys, setAt xs k p = some ys ∧ De.nx (ρ.set i (.own (.py (.list ys))))) (De.ex ρ)) (De.ex ρ)
end
end VL
set_option Elab.async false
set_option linter.all false
set_option maxRecDepth 100000
set_option maxHeartbeats 4000000
namespace VL
open PySem PySem.Spec PyProof.Rows L2 HT TL
/-! ### texts as lists of signs -/
@[simp] theorem mkS_inj {a b : List Nat} : mkS a = mkS b ↔ a = b := ⟨fun e => by have := congrArg sl e; simpa using this, fun e => by rw [e]⟩
@[simp] theorem mkS_app (a b : List Nat) : mkS a ++ mkS b = mkS (a ++ b) := ext_tl (by rw [tl_append])
@[simp] theorem beq_mkS (a b : List Nat) : (mkS a == mkS b) = (a == b) := by
  by_cases h : a = b
  · subst h; simp
  · have h2 : mkS a ≠ mkS b := fun e => h (mkS_inj.mp e)
    rw [beq_eq_false_iff_ne.mpr h2, beq_eq_false_iff_ne.mpr h]
@[simp] theorem repS_mkS (l : List Nat) (k : Int) : repS (mkS l) k = mkS (List.replicate k.toNat l).flatten := rfl
@[simp] theorem cps_mkS (l : List Nat) : (mkS l).cps = l.toArray := rfl
def encC (c : Nat) : PyData := .str (mkS [c])
@[simp] theorem encC_eq (c : Nat) : encC c = .str (mkS [c]) := rfl
@[simp] theorem str_ab (a b : Str) : (PyData.str a = PyData.str b) ↔ a = b := ⟨fun e => by injection e, fun e => by rw [e]⟩
open Builtin.Str in
theorem occ_step (z : Str) (c k lim : Nat) (st : Array Nat × Nat) (h1 : st.2 ≤ k) (h2 : st.1.size < lim) : StrLaws.occBody z ⟨#[c]⟩ z.length lim k st = if (sl z)[k]? = some c then pure (ForInStep.yield (st.1.push k, k + 1)) else pure (ForInStep.yield (st.1, st.2)) := by
  unfold StrLaws.occBody
  have e := StrLaws.subAt_one z c k
  by_cases h : (sl z)[k]? = some c
  · have h' := e.mpr h
    rw [if_pos ⟨⟨⟨h2, h1⟩, h'.1⟩, h'.2⟩, if_pos h]
    rfl
  · rw [if_neg (fun q => h (e.mp ⟨q.1.2, q.2⟩)), if_neg h]
theorem occ_sign (z : Str) (c : Nat) : ∀ (n k free : Nat) (acc : Array Nat), free ≤ k → acc.size ≤ k → k + n = z.length + 1 →
    (forIn (List.range' k n) (acc, free) (StrLaws.occBody z ⟨#[c]⟩ z.length (z.length + 1))).run.fst.toList.length = acc.size + ((sl z).drop k).count c
  | 0, k, free, acc, h1, h2, h3 => by
    have : (sl z).drop k = [] := List.drop_eq_nil_of_le (by rw [slen]; omega)
    rw [this]; simp
  | n + 1, k, free, acc, h1, h2, h3 => by
    rw [List.range'_succ, List.forIn_cons, occ_step z c k _ (acc, free) h1 (by show acc.size < _; omega)]
    by_cases hk : k < z.length
    · have hk' : k < (sl z).length := by rw [slen]; exact hk
      rw [List.drop_eq_getElem_cons hk', List.getElem?_eq_getElem hk']
      by_cases hc : (sl z)[k] = c
      · rw [if_pos (by rw [hc]), hc, List.count_cons_self]
        have := occ_sign z c n (k + 1) (k + 1) (acc.push k) (by omega) (by simp; omega) (by omega)
        rw [Array.size_push] at this
        simp only [pure_bind]
        omega
      · rw [if_neg (by simpa using hc), List.count_cons_of_ne (by simpa using hc)]
        exact occ_sign z c n (k + 1) free acc (by omega) (by omega) (by omega)
    · have e : (sl z).drop k = [] := List.drop_eq_nil_of_le (by rw [slen]; omega)
      rw [if_neg (by rw [List.getElem?_eq_none (by rw [slen]; omega)]; simp), e]
      have := occ_sign z c n (k + 1) free acc (by omega) (by omega) (by omega)
      have e2 : (sl z).drop (k + 1) = [] := List.drop_eq_nil_of_le (by rw [slen]; omega)
      rw [e2] at this
      exact this
theorem count_sign (z : Str) (c : Nat) : Txt.count z (mkS [c]) = ((sl z).count c : Nat) := by
  unfold Txt.count
  rw [StrLaws.occ_eq]
  have := occ_sign z c (z.length + 1 - 0) 0 0 #[] (by omega) (by simp) (by omega)
  simp at this ⊢
  exact_mod_cast this
@[simp] theorem count_mkS (l : List Nat) (c : Nat) : Txt.count (mkS l) (mkS [c]) = (l.count c : Nat) := by rw [count_sign, sl_mkS]
@[simp] theorem atI_zero {α : Type} (x : α) (xs : List α) : atI (x :: xs) 0 = some x := by
  have e : ixN (x :: xs).length 0 = some 0 := by
    unfold ixN
    rw [if_pos (by omega), if_pos (by simp)]; rfl
  unfold atI
  rw [e]; rfl
theorem allI_mk (ls : List Int) : allI (ls.map PyData.int) = some ls := by
  induction ls with
  | nil => rfl
  | cons l ls ih => simp [allI, ih]
theorem allI_pN (ls : List Nat) : allI (ls.map pN) = some (ls.map fun (n : Nat) => (n : Int)) := by
  have : ls.map pN = (ls.map fun (n : Nat) => (n : Int)).map PyData.int := by rw [List.map_map]; rfl
  rw [this, allI_mk]
section
variable {g : VTg} {tt : VB} {te : VT} {tb : VS} {De : VEnds} {ρ : VEnv} {Q : D → Prop} {α β : Type}
theorem lc_encF' (enc : α → PyData) (p : α → Bool) (e : α → PyData) {L : List α} (h : ∀ (i : Nat) (x : α), L[i]? = some x → ∀ k, (p x = true → k (some (e x))) → (p x = false → k none) → lcStep g tt te (.py (enc x)) ρ k)
    (hl : L.length < 16777216) (q : Q (.py (.list ((L.filter p).map e)))) : lcGo g tt te Q (L.map (D.py ∘ enc)) [] ρ := by
  rw [← List.map_map]; exact lc_encF enc p e h hl q
theorem for_enc' (enc : α → PyData) (Iv : Nat → VEnv → Prop) {L : List α} (h0 : Iv 0 ρ) (h : ∀ i x ρ, L[i]? = some x → Iv i ρ → ∀ nx ct : VEnv → Prop, (∀ ρ', Iv (i + 1) ρ' → nx ρ' ∧ ct ρ') → g (.py (enc x)) ρ fun ρ1 => tb ρ1 ⟨nx, De.rt, De.nx, ct, De.ex, De.ro⟩) (hd : ∀ ρ, Iv L.length ρ → De.nx ρ) :
    forGo g tb (L.map (D.py ∘ enc)) ρ De := by
  rw [← List.map_map]; exact for_enc enc Iv h0 h hd
end
end VL
set_option Elab.async false
set_option linter.all false
set_option maxRecDepth 100000
set_option maxHeartbeats 4000000
/-! ### isinstance of a caught error that has a dict -/
namespace PySem.W
open PySem PySem.Spec PySem.Calls PyProof.Rows
section
variable {prog : Program} {w : World} {A : Around} {E : Value → Shared → Prop} {s : Shared} {K : Frag} {x D : Addr} {ox : Obj} {od : Option Obj}
end
end PySem.W
namespace VL
open PySem PySem.Spec PyProof.Rows L2 HT
/-! ### own errors -/
/-- n is x, or x stands above all errors of the package -/
def errSub (n x : Str) : Bool := n == x || x == "LineError" || x == "ValueError"
/-- what the written part says of an error's class -/
structure ErrC (K : PySem.W.Frag) (C : Addr) : Prop where
  hg : PySem.W.findIn K (.ref C) "__getattribute__" = some (some (.builtin "BaseException.__getattribute__"))
  hk : PySem.W.findIn K (.ref C) "__getattr__" = some none
  hs : PySem.W.subIn K (.ref C) (.type "BaseException") = some true
  hd : PySem.W.hasDictIn K C = true
  ha : PySem.W.findIn K (.ref C) "__class__" = some (some (.builtin "object.__class__"))
  hn : PySem.W.specialIn K (.builtin "object.__class__") "__get__" = some (some (.builtin "getset_descriptor.__get__"))
  ht : PySem.W.takesIn K (.builtin "object.__class__") = some true
  hm : PySem.W.mroIn K C (.type "object") = some true
section
variable {b : Bg} {W : WX} {H0 : Hp} {M Zo Z : Addr → Prop} {σ : L2.St} {H H' : Hp} {ρ : VEnv} {De : VEnds} {Dn : Ends}
end
/-! ### try: .. except x as n: .. -/
/-- the ends of an except suite: the name is forgotten behind it -/
@[simp] def afterS (i : Nat) (De : VEnds) : VEnds := { nx := fun ρ2 => i < ρ2.length ∧ De.nx (ρ2.set i .un), rt := De.rt, bk := fun ρ2 => i < ρ2.length ∧ De.bk (ρ2.set i .un), ct := fun ρ2 => i < ρ2.length ∧ De.ct (ρ2.set i .un), ex := fun _ _ => False, ro := De.ro }
/-- i: the slot of n; names: the errors that may be met here -/
@[simp] def sTry (i : Nat) (names : List Str) (x : Str) (tb : VS) (ts : Addr → Option Addr → Er → VS) : VS := fun ρ De => i < ρ.length ∧
  tb ρ { De with ex := fun ρ' er => i < ρ'.length ∧ er.n ∈ names ∧ if errSub er.n x = true then ∀ a d, ts a d er (ρ'.set i (.shr (.err a d er.n er.fs))) (afterS i De) else De.ex ρ' er }
section
variable {X : Cx} {b : Bg} {Wout : WX} {names : List Str} {x n : Str} {i : Nat} {body suite : List Stmt} {b₀ : Stmt} {np pos pos' : Pos} {tb : VS} {ts : Addr → Option Addr → Er → VS}
end
end VL
set_option Elab.async false
set_option linter.all false
set_option maxRecDepth 100000
set_option maxHeartbeats 4000000
namespace VL
open PySem PySem.Spec PyProof.Rows L2 HT
abbrev veB : List Value := [.type "ValueError", .type "Exception", .type "BaseException", .type "object"]
/-! ### raise -/
/-- an error without fields can be made -/
structure Mk0 (K : PySem.W.Frag) (mg : Str → Option Value) (b : Bg) (n : Str) : Prop where
  g : mg n = some (.ref (b.cls n))
  q : PySem.W.excIn K (b.cls n) veB "ValueError.__new__" = true
  k : PySem.W.keepIn K (.ref (b.cls n)) = true
  s : PySem.W.subIn K (.ref (b.cls n)) (.type "BaseException") = some true
  t : PySem.W.typeIn K (.ref (b.cls n)) = some (.type "type")
theorem pmk_own0 {X : Cx} {C : Addr} {bmB : List Value} {B newId initId : String} {x : Str} {p pos : Pos} (F : ExcBaseFacts B newId initId bmB) (q : PySem.W.excIn X.K C bmB newId = true) (gC : X.mg x = some (.ref C))
    (kC : PySem.W.keepIn X.K (.ref C) = true) (r : Raises X (.ref C)) (hg : Gl X x) (hdb : (x == ("__debug__" : Str)) = false := by decide) :
    PMk X (.Call (.Name x p) [] [] pos) (fun _ H Q => Q (.ref C) none H) := by
  intro pins s σ H Q I h
  refine wpAny_Call_Name_kw (ld_glob I hg gC (PySem.W.callWith_K0 I.kIn kC ?_) hdb)
  show wpAny _ _ (call (.ref C) []) _ _ _
  obtain ⟨bm, N, nm, qn, bs, hdct, sn, sub, ab, col, dd, k0, k1, k2, k3, k5, mN, hC, hN, hni, T⟩ := exc_obj I.kIn q
  refine wpAny_call_exc_subT F T hC hN hni (fun h' e hm => ?_) (Nat.zero_le _)
  exact mk_of I hm r h (I.hok.gone hm.new)
@[simp] def sRaise0 (n : Str) : VS := fun ρ De => De.ex ρ ⟨n, []⟩
@[simp] def sRaise1 (n f : Str) (t : VT) : VS := fun ρ De => t ρ (fun d => ∃ p, d = .py p ∧ De.ex ρ ⟨n, [(f, p)]⟩) (De.ex ρ)
/-- what an error's own __init__ promises -/
def spInit (K : PySem.W.Frag) (f : Str) : Sp := fun vs H Q _ => ∃ (a C : Addr) (v : V), vs = [.ref a, v] ∧ OexC K C ∧ PySem.W.findIn K (.ref C) f = some none ∧ H a = some (exo a C none) ∧ ∀ dx, H dx = none → dx ≠ a → Q .non (upd (upd H dx (exd dx [(f, v)])) a (exo a C (some dx)))
theorem ok_init {P : Program} {w : World} {K : PySem.W.Frag} {mg : Str → Option Value} {base : Heap} {x qual f prm : Str} {st : Stmt} {fa : Addr} {fd : FuncData} {p1 p2 p3 p4 : Pos} (F : Fun K x qual st fa fd) (Sc : FnScope ["self", prm] ["self", prm] (defScope st))
    (hst : defBody st = [.Assign [.Attribute (.Name "self" p1) f p2] (.Name prm p3) p4]) (h0 : (defScope st).names.lookup ("self" : Str) = some .local) (h1 : (defScope st).names.lookup prm = some .local) (hd : (prm == ("__debug__" : Str)) = false) (hcd : (prm == ("__classdict__" : Str)) = false) :
    FnOk P w K mg base (L2.CX P w) 1 fa fd ["self", prm] (spInit K f) := by
  refine F.okX Sc (fun vs H Q E ⟨a, C, v, e, _⟩ => by rw [e]; rfl) fun cdv A outer s H vs Q E hr h => ?_
  rw [hst]
  refine ⟨_, pss_one (ps_ost (pe_var (i := 0) rfl (.inl h0)) (pe_var (i := 1) rfl (.inl h1) hd hcd)), ?_⟩
  obtain ⟨a, C, v, rfl, T, hno, e, q⟩ := h
  exact ⟨v, rfl, .ref a, rfl, a, C, rfl, T, hno, .inl ⟨e, fun dx hd hne => q dx hd hne⟩⟩
/-- an error with the field f can be made -/
structure Mk1 (P : Program) (w : World) (K : PySem.W.Frag) (mg : Str → Option Value) (base : Heap) (b : Bg) (n f : Str) where
  g : mg n = some (.ref (b.cls n))
  T : OexC K (b.cls n)
  hno : PySem.W.findIn K (.ref (b.cls n)) f = some none
  fI : Addr
  fd : FuncData
  prm : Str
  iC : PySem.W.findIn K (.ref (b.cls n)) "__init__" = some (some (.ref fI))
  tI : PySem.W.typeIn K (.ref fI) = some (.type "function")
  F : FnOk P w K mg base (L2.CX P w) 1 fI fd ["self", prm] (spInit K f)
  bd : Binds K fd ["self", prm] []
section
variable {X : Cx} {b : Bg} {W : WX} {n f : Str} {e : Expr} {t : VT} {p pos pos2 : Pos} {j : Nat}
theorem vs_raise0 (M : Mk0 X.K X.mg b n) (hc : X.calm = true) (tk : Takes X W) (hg : Gl X n) (hdb : (n == ("__debug__" : Str)) = false := by decide) : VSt X b W (.Raise (some (.Call (.Name n p) [] [] pos)) none pos2) (sRaise0 n) :=
  ps_mono (ps_raise hc tk (pmk_own0 PySem.F.excBase_ValueError M.q M.g M.k (raises_own M.s M.t) hg hdb)) fun D σ H ⟨H0, Mo, Zo, Z, ρ, De, fo, q, l⟩ => l.ex _ _ _ _ _ _ ⟨n, []⟩ fo ⟨rfl, .inl ⟨rfl, rfl⟩⟩ q
theorem vs_raise1 (M : Mk1 X.prog X.w X.K X.mg X.base b n f) (hr : Room j X.A) (hc : X.calm = true) (tk : Takes X W) (hg : Gl X n) (he : VE X b W e t) (hj : 2 ≤ j := by decide) (hdb : (n == ("__debug__" : Str)) = false := by decide)
    (hs : starEach [e] X.env = (false, eval e X.env) :: starEach [] X.env := by rfl) (hpl : (backTo pos (starEach [] X.env)).any (·.1) = false := by rfl) :
    VSt X b W (.Raise (some (.Call (.Name n p) [e] [] pos)) none pos2) (sRaise1 n f t) :=
  ps_mono (ps_raise hc tk (pmk_oex (k := 1) (ds := []) (dvs := []) M.T M.iC M.tI M.F (hr.mono hj) M.bd .nil passL hg M.g (va_cons he va_nil hs) hdb hs hpl)) fun D σ H ⟨H0, Mo, Zo, Z, ρ, De, fo, q, l⟩ => by
    refine ⟨Zo, Z, ρ, fun ds => match ds with | [d] => ∃ p, d = .py p ∧ De.ex ρ ⟨n, [(f, p)]⟩ | _ => False, De.ex ρ, fo.v, q, fun vs H1 ds x1 g1 r1 q1 => ?_, l.er fo⟩
    match ds, q1, r1 with
    | [_], ⟨p, rfl, q1⟩, .cons (v := v) rv .nil =>
      refine ⟨by show 1 ≤ 1000; omega, fun a ha => ⟨a, b.cls n, v, rfl, M.T, M.hno, upd_same, fun dx hd hne => ⟨rfl, dx, [(f, v)], upd_same, ?_, ?_, ?_⟩⟩⟩
      · rw [upd_ne hne]; exact upd_same
      · rw [upd_ne hne] at hd; exact hd
      · have hd1 : H1 dx = none := by rw [upd_ne hne] at hd; exact hd
        generalize hHf : upd (del (upd (upd (upd H1 a (exo a (b.cls n) none)) dx (exd dx [(f, v)])) a (exo a (b.cls n) (some dx))) a) dx (.xd [(f, v)]) = Hf
        have at_ : ∀ c, c ≠ a → c ≠ dx → Hf c = H1 c := fun c c1 c2 => by rw [← hHf, upd_ne c2, del_ne c1, upd_ne c1, upd_ne c2, upd_ne c1]
        have hfd : Hf dx = some (.xd [(f, v)]) := by rw [← hHf]; exact upd_same
        have x2 : Ex b H1 Hf := fun c o hc _ => by
          rw [at_ c (fun z => by rw [z, ha] at hc; cases hc) (fun z => by rw [z, hd1] at hc; cases hc)]
          exact hc
        have g2 : b.G Hf := b.loc H1 Hf (fun c hc => at_ c (fun z => b.dom H1 c g1 hc (by rw [z]; exact ha)) (fun z => b.dom H1 c g1 hc (by rw [z]; exact hd1))) (fun c o _ e => by rw [at_ c (fun z => by rw [z, ha] at e; cases e) (fun z => by rw [z, hd1] at e; cases e)]; exact e) g1
        have f1 := fo.ex x1 g1
        have f2 := f1.ex x2 g2
        refine l.ex _ _ _ _ _ _ ⟨n, [(f, _)]⟩ f2 ⟨rfl, .inr ⟨dx, _, rfl, hfd, f1.v.fresh hd1, .cons (f1.v.rq x2 rv) .nil⟩⟩ q1
end
end VL
set_option Elab.async false
set_option linter.all false
set_option maxRecDepth 100000
set_option maxHeartbeats 4000000
namespace VL
open PySem PySem.Spec PyProof.Rows L2 HT
/-! ### in an except suite: what is asked of the error -/
/-- the error's field f -/
@[simp] def vErrF (a : Addr) (d : Option Addr) (er : Er) (i : Nat) (nf : List Str) (f : Str) : VT := fun ρ Q _ => ρ[i]? = some (.shr (.err a d er.n er.fs)) ∧ er.n ∈ nf ∧ ∃ p, er.fs.lookup f = some p ∧ Q (.py p)
/-- isinstance(error, x) -/
@[simp] def vErrI (a : Addr) (d : Option Addr) (er : Er) (i : Nat) (names : List Str) (x : Str) : VT := fun ρ Q _ => ρ[i]? = some (.shr (.err a d er.n er.fs)) ∧ er.n ∈ names ∧ Q (.py (.bool (errSub er.n x)))
/-- isinstance(error, (x, ..)) -/
@[simp] def vErrIT (a : Addr) (d : Option Addr) (er : Er) (i : Nat) (names xs : List Str) : VT := fun ρ Q _ => ρ[i]? = some (.shr (.err a d er.n er.fs)) ∧ er.n ∈ names ∧ Q (.py (.bool (xs.any fun x => errSub er.n x)))
section
variable {X : Cx} {b : Bg} {W : WX} {a : Addr} {oe : Obj} {er : Er} {d : Option Addr} {pn : List (Addr × Obj)} {i : Nat} {names nf xs : List Str} {x f nm : Str} {pos p p1 p2 : Pos} {e e2 : Expr} {es : List Expr}
end
section
variable {X : Cx} {b : Bg} {W : WX} {a : Addr} {oe : Obj} {er : Er} {d : Option Addr} {pn : List (Addr × Obj)} {i : Nat} {names nf xs : List Str} {x f nm : Str} {pos p p1 p2 : Pos} {e e2 : Expr} {es : List Expr} {k1 : Nat}
end
end VL
set_option Elab.async false
set_option linter.all false
set_option maxRecDepth 100000
set_option maxHeartbeats 4000000
namespace VL
open PySem PySem.Spec PyProof.Rows L2 HT
/-! ### the facts of the errors' classes, for the join -/
/-- what every error's class that is raised must say -/
structure RaiB (K : PySem.W.Frag) (C : Addr) (n : Str) : Prop where
  ns : PySem.W.nsIn K mainGlobals n = some (some (.ref C))
  kC : PySem.W.keepIn K (.ref C) = true
  tyC : PySem.W.typeIn K (.ref C) = some (.type "type")
  sf : PySem.W.selfFirst K C = true
  ve : PySem.W.subIn K (.ref C) (.type "ValueError") = some true
  ec : ErrC K C
theorem raiB {K : PySem.W.Frag} {C : Addr} {n : Str} (a1 : PySem.W.nsIn K mainGlobals n = some (some (.ref C))) (a2 : PySem.W.keepIn K (.ref C) = true) (a3 : PySem.W.typeIn K (.ref C) = some (.type "type")) (a4 : PySem.W.selfFirst K C = true)
    (a5 : PySem.W.subIn K (.ref C) (.type "ValueError") = some true)
    (b1 : PySem.W.findIn K (.ref C) "__getattribute__" = some (some (.builtin "BaseException.__getattribute__"))) (b2 : PySem.W.findIn K (.ref C) "__getattr__" = some none) (b3 : PySem.W.subIn K (.ref C) (.type "BaseException") = some true) (b4 : PySem.W.hasDictIn K C = true)
    (b5 : PySem.W.findIn K (.ref C) "__class__" = some (some (.builtin "object.__class__"))) (b6 : PySem.W.specialIn K (.builtin "object.__class__") "__get__" = some (some (.builtin "getset_descriptor.__get__"))) (b7 : PySem.W.takesIn K (.builtin "object.__class__") = some true) (b8 : PySem.W.mroIn K C (.type "object") = some true) : RaiB K C n := ⟨a1, a2, a3, a4, a5, ⟨b1, b2, b3, b4, b5, b6, b7, b8⟩⟩
structure Rai0 (K : PySem.W.Frag) (n : Str) : Prop where
  ex : ∃ C : Addr, RaiB K C n ∧ PySem.W.excIn K C veB "ValueError.__new__" = true
theorem rai0 {K : PySem.W.Frag} {C : Addr} {n : Str} (r : RaiB K C n) (q : PySem.W.excIn K C veB "ValueError.__new__" = true) : Rai0 K n := ⟨C, r, q⟩
structure RaiI (K : PySem.W.Frag) (C : Addr) (n qual f : Str) (st : Stmt) : Prop where
  b : RaiB K C n
  T : OexC K C
  no : PySem.W.findIn K (.ref C) f = some none
  ini : ∃ (fI : Addr) (fd : FuncData), Fun K "__init__" qual st fI fd ∧ PySem.W.findIn K (.ref C) "__init__" = some (some (.ref fI)) ∧ PySem.W.typeIn K (.ref fI) = some (.type "function")
structure Rai1 (K : PySem.W.Frag) (n qual f : Str) (st : Stmt) : Prop where
  ex : ∃ C : Addr, RaiI K C n qual f st
theorem rai1 {K : PySem.W.Frag} {C fI : Addr} {n qual f : Str} {st : Stmt} {oc kV doc pm cdv ct : Value} {od an : Option Addr} {osl : Array (Option Value)} {nm q : Str} {N : Addr} {bs bm : List Value} {sn : List Str} {sub : List Value} {ab : Bool} {col : Option Bool} {dd : Option Addr} {k0 k1 k2 k3 k5 : Option Value} (r : RaiB K C n)
    (c1 : K.lookup C = some (excClassObj nm q C N bs bm true sn sub ab col dd k0 k1 k2 k3 k5 "ValueError.__new__")) (c2 : PySem.HandSPX.refsVE bm = true) (c3 : PySem.W.findIn K (.ref C) "__setattr__" = some (some (.builtin "object.__setattr__"))) (c4 : PySem.W.findIn K (.ref C) f = some none)
    (d1 : PySem.W.findIn K (.ref C) "__init__" = some (some (.ref fI))) (d2 : PySem.W.typeIn K (.ref fI) = some (.type "function")) (d3 : K.lookup fI = some ⟨oc, od, .func (PySem.W.fnOf "__init__" qual (defArgs st) (defBody st) (defScope st) .none kV doc pm an cdv ct), osl⟩) (d4 : PySem.W.codeIn K cdv qual = true) (d5 : PySem.W.keepIn K (.ref fI) = true) : Rai1 K n qual f st :=
  ⟨C, r, ⟨⟨nm, q, N, bs, bm, sn, sub, ab, col, dd, k0, k1, k2, k3, k5, c1, c2⟩, c3, r.ec.hs, r.tyC, r.kC⟩, c4, fI, _, fun_mk d3 d4 d5, d1, d2⟩
section
variable {K : PySem.W.Frag} {h : Heap} {mg : Str → Option Value} {b : Bg} {n x qual f prm : Str} {C : Addr} {st : Stmt} {names : List Str}
theorem RaiB.mk0 (r : RaiB K (b.cls n) n) (q : PySem.W.excIn K (b.cls n) veB "ValueError.__new__" = true) (X : K.In h) (G : h.Ns mainGlobals mg) : Mk0 K mg b n := ⟨PySem.W.mg_of X G r.ns, q, r.kC, r.ec.hs, r.tyC⟩
theorem RaiI.mk1 {P : Program} {w : World} {base : Heap} (r : RaiI K (b.cls n) n qual f st) (X : K.In h) (G : h.Ns mainGlobals mg) (wk : ∀ (fa : Addr) (fd : FuncData), Fun K "__init__" qual st fa fd → FnOk P w K mg base (L2.CX P w) 1 fa fd ["self", prm] (spInit K f))
    (bd : ∀ (kV doc pm : Value) (an : Option Addr) (cdv ct : Value) (us : List Value), us.length = (["self", prm] : List Str).length → bindArgs (PySem.W.fnOf "__init__" qual (defArgs st) (defBody st) (defScope st) .none kV doc pm an cdv ct) ⟨us, []⟩ = pure ((["self", prm] : List Str).zip us)) : Nonempty (Mk1 P w K mg base b n f) := by
  obtain ⟨fI, fd, F, iC, tI⟩ := r.ini
  exact ⟨⟨PySem.W.mg_of X G r.b.ns, r.T, r.no, fI, fd, prm, iC, tI, wk fI fd F, F.binds bd⟩⟩
end
/-- the classes' addresses by their names -/
def clsOf : List (Str × Addr) → Addr → Str → Addr
  | [], fa, _ => fa
  | (m, C) :: r, fa, n => if m = n then C else clsOf r fa n
theorem clsOf_hd {m : Str} {C fa : Addr} {r : List (Str × Addr)} : clsOf ((m, C) :: r) fa m = C := if_pos rfl
theorem clsOf_tl {m n : Str} {C fa : Addr} {r : List (Str × Addr)} (h : (m == n) = false) : clsOf ((m, C) :: r) fa n = clsOf r fa n := if_neg (by simpa using h)
/-- a def within a class -/
def clsDef (s : Stmt) (i : Nat) : Stmt := match s with
  | .ClassDef _ _ _ b _ _ _ _ _ _ _ => b.getD i (.Pass ⟨0, 0, 0, 0⟩)
  | s => s
end VL
set_option Elab.async false
set_option linter.all false
set_option maxRecDepth 100000
set_option maxHeartbeats 2000000
/-! VL38: defs with one star parameter, called plainly. -/
namespace VL
open PySem PySem.Spec PyProof.Rows L2
@[simp] def svStar (S : SV) : SV := fun ds Q E => ∃ ps, pys ds = some ps ∧ ps.length ≤ sizeLine ∧ S [.py (.tuple ps)] Q E
structure CalR (P : Program) (w : World) (K : PySem.W.Frag) (mg : Str → Option Value) (base : Heap) (b : Bg) (k : Nat) (x : Str) (S : SV) where
  f : Addr
  F : FnR P w K mg base (L2.CX P w) k f (spV b S)
  g : mg x = some (.ref f)
  kp : PySem.W.keepIn K (.ref f) = true
section
variable {CX : CXT} {P : Program} {w : World} {K : PySem.W.Frag} {mg : Str → Option Value} {base : Heap} {k : Nat} {f : Addr} {name qual : Str} {params : Arguments} {body : List Stmt} {scope : Scope} {dV kV doc pm cdv ct oc : Value} {an od : Option Addr}
  {osl : Array (Option Value)} {N ps : List Str} {sp : Sp}
end
section
variable {P : Program} {w : World} {K : PySem.W.Frag} {mg : Str → Option Value} {base : Heap} {b : Bg} {k : Nat} {x qual pv : Str} {st : Stmt} {f : Addr} {fd : FuncData} {N : List Str} {S : SV}
end
section
variable {X : Cx} {b : Bg} {W : WX} {k j : Nat} {x : Str} {S : SV} {e : Expr} {es : List Expr} {u : VA} {p pos : Pos}
theorem run_fnRS {k : Nat} {f : Addr} {sp : Sp} {E : L2.St → XK} {pins : List (Addr × Obj)} {σ : L2.St} {H : Hp} {s : Shared} {Q : VK} {us : List Value} {vs : List V} (F : FnR X.prog X.w X.K X.mg X.base (L2.CX X.prog X.w) k f sp) (hr : Room k X.A) (hx : PassesAt (L2.CX X.prog X.w) X σ (E σ)) (I : Inv X pins σ H s) (r : Vals vs us) (h : sp vs H Q (E σ)) :
    wpAny (model X.prog X.w) X.A (call (.ref f) us) (EP X pins σ Q) X.xe s := by
  refine wpAny_call (codeAny_mono (F X.A X.stack s H us vs Q (E σ) hr I.env0 r h) fun r s' hq => ?_)
  cases r with
  | error e => exact hx pins H s e s' I hq
  | ok fl =>
    cases fl with
    | ret u => exact I.after hq
    | next => exact False.elim hq
    | brk => exact False.elim hq
    | cont => exact False.elim hq
end
end VL
set_option Elab.async false
set_option linter.all false
set_option maxRecDepth 100000
set_option maxHeartbeats 2000000
/-! VL39: list.count of bools -/
namespace VL
open PySem PySem.Spec PyProof.Rows L2
theorem bools_vals : ∀ {us : List Value} {ns : List Bool}, Vals (ns.map V.bl) us → us = ns.map Value.bool
  | [], [], .nil => rfl
  | _, n :: ns, .cons r t => by
    cases r
    rw [List.map_cons, bools_vals t]
@[simp] def isLi : D → Prop
  | .py (.list _) => True
  | _ => False
@[simp] def gCountB : D → List D → (D → Prop) → Prop
  | .py (.list xs), [.py (.bool k)], Q => ∃ ns, allB xs = some ns ∧ Q (.py (.int (ns.count k : Nat)))
  | _, _, _ => False
end VL
set_option Elab.async false
set_option linter.all false
set_option maxRecDepth 100000
set_option maxHeartbeats 4000000
/-! VL40: the law's head for any background; the gear: a list of three numbers that a def draws from -/
namespace VL
open PySem PySem.Spec PyProof.Rows L2
theorem law_restX {B : Bg} {r : Addr} {H : Hp} {N : List Str} {i : Nat} {a : Addr} {t : VS} {Q : VK} {E : XK} (hG : B.G H) (h0 : 0 < N.length) (hi : i < N.length)
    (law : t (envBag N.length i r) (fin isTrue' noE)) (q : ∀ H', Q (.bl true) H') : LS B (WF E) t { nx := fun _ H' => Q .non H', rt := Q } ((L2.start N [.ref a]).set i (some (.ref r))) H := by
  have hl : (L2.start N [V.ref a]).length = N.length := by
    unfold L2.start
    rw [List.length_append, List.length_map, List.length_replicate, List.length_singleton]
    omega
  refine ⟨H, fun _ => False, B.B, B.B, _, _, ⟨⟨hG, fun _ z => z, fun _ z => z, fun a z => B.dom H a hG z, fun _ z => .inl z, fun j d e => ?_, fun j k d e c h1 _ _ _ => ?_, fun j d e => ?_, ?_⟩, fun _ _ e _ _ => e, fun j d c h1 _ => ?_⟩, law, ⟨fun _ _ _ _ _ h => (by cases h), fun v H' d _ _ rp h => ?_, fun _ _ _ _ _ h => h.elim, fun _ _ _ _ _ h => h.elim, fun _ _ _ _ _ _ _ _ _ h => h.elim, fun _ _ _ _ _ _ _ _ h => h.elim⟩⟩
  · rcases envBag_at e with h | ⟨_, h⟩ <;> cases h
  · rcases envBag_at h1 with h | ⟨_, h⟩ <;> cases h
  · rcases envBag_at e with h | ⟨ej, h⟩
    · cases h
    · cases h
      subst ej
      exact ⟨.ref r, List.getElem?_set_self (by rw [hl]; exact hi), rfl⟩
  · unfold envBag
    rw [List.length_set, List.length_replicate, List.length_set, hl]
  · rcases envBag_at h1 with h | ⟨_, h⟩ <;> cases h
  · have h' : d = .py (.bool true) := h
    subst h'
    have rp' : Rq B.B H' v (.bool true) := rp
    cases rp'
    exact q H'
section
variable {P : Program} {w : World} {K : PySem.W.Frag} {mg : Str → Option Value} {base : Heap} {k k0 : Nat} {st : Stmt} {f fo : Addr} {fd fdo : FuncData} {N : List Str}
theorem lawX {ι : Type} (Bf : ι → Bg) (rf : ι → Addr) {spO : Sp} {bn on : Str} (hO : ∀ (a : Addr) (ns : List Int) (H : Hp) (Q : VK) (E : XK), SqL K H a (ns.map V.int) → ns.length ≤ 63 → (∀ x H', (Bf x).G H' → Q (.ref (rf x)) H') → spO [.ref a] H Q E) {i : Nat} {t : ι → VS} {p1 p2 p3 p4 p5 : Pos} {rest : List Stmt} {nm : Str} (F : Fun K nm nm st f fd) (Sc : FnScope N ["_law_script"] (defScope st))
    (hst : defBody st = .Assign [.Name bn p1] (.Call (.Name on p2) [.Name "_law_script" p3] [] p4) p5 :: rest)
    (FO : FnOk P w K mg base (L2.CX P w) k0 fo fdo ["_law_script"] spO) (gO : mg on = some (.ref fo)) (kO : PySem.W.keepIn K (.ref fo) = true) (bO : Binds K fdo ["_law_script"] []) (hk : k0 ≤ k) (hdb : (on == ("__debug__" : Str)) = false := by decide)
    (hi : N[i]? = some bn) (h0 : N[0]? = some ("_law_script" : Str)) (hloc : Loc (defScope st) bn) (hloc0 : (defScope st).names.lookup ("_law_script" : Str) = some .local) (hgl : (defScope st).names.lookup on = some .globalImplicit)
    (hbody : ∀ (x : ι) (cdv : Value) (A : Around) (outer : List Env) (s : Shared) (H : Hp) (E : XK), Room k (A.deeper (envOfC nm (defScope st) s.heap.objs.size f cdv)) → (A.deeper (envOfC nm (defScope st) s.heap.objs.size f cdv)).guards = some [] →
      Takes (cxOf (L2.CX P w) P w K mg base N nm (defScope st) f cdv A outer s H E) (WF E) → VSs (cxOf (L2.CX P w) P w K mg base N nm (defScope st) f cdv A outer s H E) (Bf x) (WF E) rest (t x))
    (law : ∀ x, t x (envBag N.length i (rf x)) (fin isTrue' noE)) : FnG P w K mg base (k + 1) f fd ["_law_script"] (spLaw K) := by
  refine fnG F Sc (fun vs H Q E ⟨a, ns, e, _⟩ => by rw [e]; rfl) fun cdv A outer s H vs Q E hr hg ⟨a, ns, ev, hS, hl, q⟩ => ?_
  subst ev
  rw [hst]
  have tk : Takes (cxOf (L2.CX P w) P w K mg base N nm (defScope st) f cdv A outer s H E) (WF E) := takes_of rfl rfl rfl rfl
  have hN0 : 0 < N.length := (List.getElem?_eq_some_iff.mp h0).1
  have hNi : i < N.length := (List.getElem?_eq_some_iff.mp hi).1
  refine ⟨_, pss_cons (ps_set (X := cxOf (L2.CX P w) P w K mg base N nm (defScope st) f cdv A outer s H E) (i := i) Sc.nd hi hloc (pe_callS FO (hr.mono hk) ?_ gO kO bO (fun σ => passAt tk σ) (pa_cons (pe_var h0 (.inl hloc0)) pa_nil) hdb) (by rfl) (.inl rfl))
    (pss_ex fun x => hbody x cdv A outer s H E hr hg tk), ?_⟩
  · exact hgl
  · refine ⟨.ref a, ?_, hO a ns _ _ _ hS hl fun x H' hG => ⟨x, law_restX hG hN0 hNi (law x) q⟩⟩
    unfold L2.start
    rfl
end
/-! ### the gear -/
end VL
set_option Elab.async false
set_option linter.all false
set_option maxRecDepth 100000
set_option maxHeartbeats 2000000
/-! VL41: isinstance with a pair of classes; a promise that nothing may ask -/
namespace VL
open PySem PySem.Spec PyProof.Rows L2
@[simp] def vIsi2 (T1 T2 : String) (t : VT) : VT := fun ρ Q E => t ρ (fun d => ∃ p, d = .py p ∧ ∃ k1 k2, isK T1 p = some k1 ∧ isK T2 p = some k2 ∧ Q (.py (.bool (k1 || k2)))) E
section
variable {X : Cx} {b : Bg} {W : WX} {T1 T2 : String} {x1 x2 : Str} {e : Expr} {t : VT} {p p1 p2 p3 pos : Pos} {kk : Nat}
end
end VL
set_option Elab.async false
set_option linter.all false
set_option maxRecDepth 100000
set_option maxHeartbeats 4000000
/-! VL42: sorted of lists and tuples of ints -/
namespace VL
open PySem PySem.Spec PyProof.Rows L2
/-- sorted(t), a tuple of ints -/
def rSortedTup (K : PySem.W.Frag) : List V → Hp → VK → Prop := fun vs H Q => ∃ (a : Addr) (ns : List Int), vs = [V.ref a] ∧ SqT K H a (ns.map V.int) ∧
  ∀ (ns' : List Int) (p : Addr), ns'.Perm ns → ns'.Pairwise (· ≤ ·) → H p = none → Q (.ref p) (upd H p (.lst (ns'.map V.int)))
section
variable {X : Cx}
theorem cr_sortedTup : CallR X (.builtin "sorted") (rSortedTup X.K) := by
  intro pins s σ H vs us Q I r h
  obtain ⟨a, ns, rfl, hs, q⟩ := h
  obtain ⟨its, rv, ⟨o, ho, hc, n, hd⟩, hz⟩ := I.tuple hs
  rw [Vals.ref1 r]
  have hi := rv.ints
  have hzi : its.length ≤ sizeLine := by rw [← rv.length]; exact hz
  refine Calls.call_function_entry kind_sorted plain_sorted entry_sorted (args_sorted1 _) ?_
  unfold Builtin.«sorted»
  refine wpAny_bind (m := checkCount "sorted" 1 1 _) (wpAny_pure ?_)
  refine wpAny_bind (wpAny_collect_seq a (.inr rfl) ho hc hd (fun h' hk => ?_) (by rw [List.size_toArray]; exact hzi))
  have ei : its.toArray.toList = its := by simp
  rw [ei]
  have I2 : Inv X pins σ H { s with heap := h' } := I.kept (t' := s.toks) hk
  refine wpAny_bind (wpAny_newList ?_ hzi)
  have hoL : (h'.push (seqObj "list" its.toArray 0)).get? h'.objs.size = some (seqObj "list" its.toArray 0) := Heap.get?_push_size _ rfl
  refine wpAny_bind (wpAny_holding (wpAny_call_entry slot_list_sort ⟨_, hoL, rfl⟩ entry_list_sort (SrtO.list_sort_ord SrtO.swo_int hoL hzi (fun h2 => SrtO.ints_sortable hi h2) fun out hs hb => ⟨_, rfl, ?_⟩) (args_list_sort _)))
  obtain ⟨k1, k2, k3⟩ := SrtO.ints_out hi hs hb
  obtain ⟨ep, he'⟩ := PyProof.Rows.sortedHeap_at (vs := its) (out := out.toArray) hoL
  have hlen : ((out.map SrtO.iv).map V.int).length ≤ sizeLine := by
    rw [List.length_map, k2.length_eq]
    rw [List.length_map] at hz
    exact hz
  refine wpAny_pure ⟨_, rfl, ?_⟩
  exact ⟨.ref _, upd H h'.objs.size (.lst ((out.map SrtO.iv).map V.int)), I2.laid (t' := s.toks) (fun b u hu => by
    have hne : b ≠ h'.objs.size := Nat.ne_of_lt (Heap.lt_size hu)
    rw [PyProof.Rows.sortedHeap_old hne (Heap.lt_size (Heap.get?_push_of_some _ hu))]
    exact Heap.get?_push_of_some _ hu) (Nat.le_refl _) ⟨hlen, out, ep, vals_of_ints k1, he'⟩, rfl, q _ _ k2 k3 (I2.hok.fresh (Nat.le_refl _))⟩
end
/-! ### over values -/
theorem perm_sorted_eq : ∀ {xs ys : List Int}, xs.Perm ys → xs.Pairwise (· ≤ ·) → ys.Pairwise (· ≤ ·) → xs = ys
  | [], ys, h, _, _ => h.nil_eq
  | x :: xs, [], h, _, _ => (List.Perm.nil_eq h.symm).symm
  | x :: xs, y :: ys, h, h1, h2 => by
    rw [List.pairwise_cons] at h1 h2
    have e : x = y := by
      have m1 : x ∈ y :: ys := h.mem_iff.mp List.mem_cons_self
      have m2 : y ∈ x :: xs := h.mem_iff.mpr List.mem_cons_self
      rcases List.mem_cons.mp m1 with e | e
      · exact e
      · rcases List.mem_cons.mp m2 with e' | e'
        · exact e'.symm
        · have := h1.1 y e'
          have := h2.1 x e
          omega
    subst e
    rw [perm_sorted_eq (List.perm_cons _ |>.mp h) h1.2 h2.2]
def sortI (ns : List Int) : List Int := ns.mergeSort (fun a b => decide (a ≤ b))
theorem sortI_perm (ns : List Int) : (sortI ns).Perm ns := List.mergeSort_perm _ _
theorem sortI_sorted (ns : List Int) : (sortI ns).Pairwise (· ≤ ·) := by
  have := List.pairwise_mergeSort (le := fun a b : Int => decide (a ≤ b)) (fun a b c h1 h2 => by simp at *; omega) (fun a b => by simp; omega) ns
  exact this.imp fun h => by simpa using h
theorem sortI_eq {ns ms : List Int} (h : ms.Perm ns) (h1 : ms.Pairwise (· ≤ ·)) : ms = sortI ns := perm_sorted_eq (h.trans (sortI_perm ns).symm) h1 (sortI_sorted ns)
@[simp] def gSorted : List D → (D → Prop) → Prop
  | [.py (.list xs)], Q => ∃ ns, allI xs = some ns ∧ Q (.py (.list ((sortI ns).map PyData.int)))
  | [.py (.tuple xs)], Q => ∃ ns, allI xs = some ns ∧ Q (.py (.list ((sortI ns).map PyData.int)))
  | _, _ => False
theorem rd_sorted {K : PySem.W.Frag} {b : Bg} : CalD b (RN b) (fun xs H Q => rSortedI K xs H Q ∨ rSortedTup K xs H Q) gSorted := by
  intro Z H vs ds Q Qd gd rx h k
  match ds, h, rx with
  | [.py (.list xs)], ⟨ns, e, h⟩, rx =>
    obtain ⟨x, rfl, r⟩ := rx.one
    obtain ⟨a, us, rfl, ha, qa⟩ := r.list
    rw [allI_of e] at qa
    have eu := qa.ints
    subst eu
    refine .inl ⟨a, ns, rfl, SqL.of ha, fun ns' p hp hs hn => ?_⟩
    have es := sortI_eq hp hs
    subst es
    exact k _ _ (.py (.list _)) (Ex.new hn) (gd.new hn) ⟨p, rfl, hn, _, upd_same, .of_ints _⟩ h
  | [.py (.tuple xs)], ⟨ns, e, h⟩, rx =>
    obtain ⟨x, rfl, r⟩ := rx.one
    obtain ⟨a, oa, us, rfl, ha, da, na, qa⟩ := r.tuple
    rw [allI_of e] at qa
    have eu := qa.ints
    subst eu
    refine .inr ⟨a, ns, rfl, SqT.th ha, fun ns' p hp hs hn => ?_⟩
    have es := sortI_eq hp hs
    subst es
    exact k _ _ (.py (.list _)) (Ex.new hn) (gd.new hn) ⟨p, rfl, hn, _, upd_same, .of_ints _⟩ h
theorem bb_sorted : bootBuiltins "sorted" = some (.builtin "sorted") := by decide +kernel
section
variable {X : Cx} {b : Bg} {W : WX} {e : Expr} {es : List Expr} {u : VA} {p pos : Pos}
theorem vn_sortedC (hg : Gl X "sorted") (hm : X.mg "sorted" = none) (ha : VXs X b W (e :: es) u) (he : starEach (e :: es) X.env = (false, eval e X.env) :: starEach es X.env := by rfl) (hpl : (backTo pos (starEach es X.env)).any (·.1) = false := by rfl) :
    VN X b W (.Call (.Name "sorted" p) (e :: es) [] pos) (vCal gSorted u) := vn_callB (CallR.or cr_sortedI cr_sortedTup) rd_sorted hg hm bb_sorted ha (by decide) (by decide) he hpl
end
end VL
set_option Elab.async false
set_option linter.all false
set_option maxRecDepth 100000
set_option maxHeartbeats 4000000
/-! VL43: len(set(t)), t a tuple of ints -/
namespace VL
open PySem PySem.Spec PyProof.Rows L2
section
variable {X : Cx}
end
@[simp] def vLenSet (t : VT) : VT := fun ρ Q E => t ρ (fun d => ∃ xs ns, d = .py (.tuple xs) ∧ allI xs = some ns ∧ ns.length < 1000 ∧ ∀ ks : List Int, ks.Nodup → (∀ j, j ∈ ks ↔ j ∈ ns) → Q (.py (.int (ks.length : Nat)))) E
end VL
set_option Elab.async false
set_option linter.all false
set_option maxRecDepth 100000
set_option maxHeartbeats 4000000
/-! VL44: the jug: a list of a list and two numbers -/
namespace VL
open PySem PySem.Spec PyProof.Rows L2
def KeepJ (r l : Addr) (H H' : Hp) : Prop := ∀ a o, H a = some o → a ≠ r → a ≠ l → H' a = some o
theorem KeepJ.refl {r l : Addr} {H : Hp} : KeepJ r l H H := fun _ _ e _ _ => e
theorem KeepJ.upd {r l p : Addr} {H H1 : Hp} {o : HO} (h : KeepJ r l H H1) (hp : p = r ∨ p = l ∨ H1 p = none) : KeepJ r l H (upd H1 p o) := fun a u e n1 n2 => by
  have e1 := h a u e n1 n2
  rw [upd_ne (fun q => by
    subst q
    rcases hp with q | q | q
    · exact n1 q
    · exact n2 q
    · rw [q] at e1; cases e1)]
  exact e1
end VL
set_option Elab.async false
set_option linter.all false
set_option maxRecDepth 100000
set_option maxHeartbeats 4000000
/-! VL45: found.append(left.pop(k)), both lists owned -/
namespace VL
open PySem PySem.Spec PyProof.Rows L2
@[simp] def sPopApp (i j : Nat) (te : VT) : VS := fun ρ De => ∃ xs ys, ρ[i]? = some (.own (.py (.list xs))) ∧ ρ[j]? = some (.own (.py (.list ys))) ∧ i ≠ j ∧ xs.length < sizeLine ∧ ys.length ≤ sizeLine ∧
  te ρ (fun d => ∃ k : Nat, d = .py (.int (k : Nat)) ∧ ∃ p, ys[k]? = some p ∧ De.nx ((ρ.set j (.own (.py (.list (ys.eraseIdx k))))).set i (.own (.py (.list (xs ++ [p])))))) (De.ex ρ)
section
variable {X : Cx} {b : Bg} {W : WX} {o o2 e : Expr} {i j : Nat} {te : VT} {apos cpos pos apos2 cpos2 : Pos}
end
end VL
set_option Elab.async false
set_option linter.all false
set_option maxRecDepth 100000
set_option maxHeartbeats 4000000
/-! VL46: list(range(n)), tuple(range(n)) -/
namespace VL
open PySem PySem.Spec PyProof.Rows L2
section
variable {X : Cx} {a e : Expr} {ta : TE} {te : L2.St → Hp → (Int → Int → Hp → Prop) → Prop}
end
theorem rangeP_ints (n : Nat) : rangeP 0 n = ((List.range n).map fun i : Nat => (0 + (i : Int))).map PyData.int := by rw [rangeP_eq, List.map_map]; rfl
@[simp] def vLstRg (t : VT) : VT := fun ρ Q E => t ρ (fun d => ∃ n : Int, d = .py (.int n) ∧ 0 ≤ n ∧ n ≤ 1000000 ∧ Q (.py (.list (rangeP 0 n.toNat)))) E
@[simp] def vTupRg (t : VT) : VT := fun ρ Q E => t ρ (fun d => ∃ n : Int, d = .py (.int n) ∧ 0 ≤ n ∧ n ≤ 1000000 ∧ Q (.py (.tuple (rangeP 0 n.toNat)))) E
section
variable {X : Cx} {b : Bg} {W : WX} {a : Expr} {t : VT} {p p2 q pos : Pos}
end
end VL
set_option Elab.async false
set_option linter.all false
set_option maxRecDepth 100000
set_option maxHeartbeats 4000000
/-! VL47: x = left.pop(k), left owned -/
namespace VL
open PySem PySem.Spec PyProof.Rows L2
@[simp] def sPopSet (i j : Nat) (te : VT) : VS := fun ρ De => ∃ ys, ρ[j]? = some (.own (.py (.list ys))) ∧ i ≠ j ∧ i < ρ.length ∧ ys.length ≤ sizeLine ∧
  te ρ (fun d => ∃ k : Nat, d = .py (.int (k : Nat)) ∧ ∃ p, ys[k]? = some p ∧ De.nx ((ρ.set j (.own (.py (.list (ys.eraseIdx k))))).set i (.shr (.py p)))) (De.ex ρ)
section
variable {X : Cx} {b : Bg} {W : WX} {o2 e : Expr} {i j : Nat} {x : Str} {te : VT} {pos pos' apos2 cpos2 : Pos}
end
end VL
set_option Elab.async false
set_option linter.all false
set_option maxRecDepth 100000
set_option maxHeartbeats 4000000
/-! VL48: xs.insert(i, x), xs owned, i not below 0 -/
namespace VL
open PySem PySem.Spec PyProof.Rows L2
@[simp] def gIns : List PyData → List D → (D → List PyData → Prop) → Prop
  | p, [.py (.int i), .py x], Q => p.length < sizeLine ∧ 0 ≤ i ∧ i < 1000000000 ∧ Q (.py .none) (p.take i.toNat ++ [x] ++ p.drop i.toNat)
  | _, _, _ => False
section
variable {X : Cx} {b : Bg} {W : WX} {o e e2 : Expr} {ta : VA} {i : Nat} {apos cpos pos : Pos}
end
end VL
set_option Elab.async false
set_option linter.all false
set_option maxRecDepth 100000
set_option maxHeartbeats 4000000
/-! VL49: xs.extend(ys), xs owned, ys a list -/
namespace VL
open PySem PySem.Spec PyProof.Rows L2
@[simp] def gExt : List PyData → List D → (D → List PyData → Prop) → Prop
  | p, [.py (.list z)], Q => p.length + z.length ≤ sizeLine ∧ Q (.py .none) (p ++ z)
  | _, _, _ => False
section
variable {X : Cx} {b : Bg} {W : WX} {o e : Expr} {ta : VA} {i : Nat} {apos cpos pos : Pos}
end
end VL
set_option Elab.async false
set_option linter.all false
set_option maxRecDepth 100000
set_option maxHeartbeats 4000000
/-! VL50: *e among the items of a display or the arguments of a call -/
namespace VL
open PySem PySem.Spec PyProof.Rows L2 StX
@[simp] def vStar (t : VT) (u : VA) : VA := fun ρ Q E => t ρ (fun d => ∃ xs, (d = .py (.tuple xs) ∨ d = .py (.list xs)) ∧ u ρ (fun ds => Q (xs.map D.py ++ ds)) E) E
theorem Rps.app {b : Bg} {Z : Addr → Prop} {H : Hp} : ∀ {u : List V} {d : List D} {v : List V} {e : List D}, Rps b Z H u d → Rps b Z H v e → Rps b Z H (u ++ v) (d ++ e)
  | _, _, _, _, .nil, k => k
  | _, _, _, _, .cons r s, k => .cons r (s.app k)
section
variable {X : Cx} {b : Bg} {W : WX} {e : Expr} {es : List Expr} {t : VT} {u : VA} {p : Pos}
theorem va_star (h : VE X b W e t) (k : VAs X b W es u) (hs : starEach (.Starred e p :: es) X.env = (true, eval e X.env) :: starEach es X.env := by rfl) : VAs X b W (.Starred e p :: es) (vStar t u) :=
  pa_mono (pa_star h k hs) fun σ H Q ⟨Zo, Z, ρ, Qd, Ed, v, q, l, m⟩ => ⟨Zo, Z, ρ, _, Ed, v, q, fun x H1 d x1 g1 r1 ⟨xs, hd, q1⟩ => by
    have v1 := v.ex x1 g1
    rcases hd with rfl | rfl
    · have r1' : Rq Z H1 x (.tuple xs) := r1
      cases r1' with
      | tup ha da na qa =>
        exact ⟨_, _, rfl, .inl (SqT.th ha), Zo, Z, ρ, _, Ed, v1, q1, fun ys H2 ds x2 g2 r2 q2 => l _ H2 _ (x1.trans x2) g2 (Rps.app (v1.rqs x2 qa).to r2) q2, fun c y H2 er x2 g2 r2 q2 => m c y H2 er (x1.trans x2) g2 r2 q2⟩
    · have r1' : Rq Z H1 x (.list xs) := r1
      cases r1' with
      | lst ha na qa =>
        exact ⟨_, _, rfl, .inr (SqL.of ha), Zo, Z, ρ, _, Ed, v1, q1, fun ys H2 ds x2 g2 r2 q2 => l _ H2 _ (x1.trans x2) g2 (Rps.app (v1.rqs x2 qa).to r2) q2, fun c y H2 er x2 g2 r2 q2 => m c y H2 er (x1.trans x2) g2 r2 q2⟩, m⟩
end
end VL
set_option Elab.async false
set_option linter.all false
set_option maxRecDepth 100000
set_option maxHeartbeats 4000000
/-! VL51: sorted of a list of tuples of ints, in the order of tuples -/
namespace VL
open PySem PySem.Spec PyProof.Rows L2
def lexL : List Int → List Int → Bool
  | _, [] => false
  | [], _ :: _ => true
  | x :: xs, y :: ys => if x = y then lexL xs ys else decide (x < y)
section
variable {prog : Program} {w : World} {A : Around} {s : Shared} {E : Value → Shared → Prop}
end
section
variable {X : Cx}
end
/-! ### over values -/
def sortT (L : List (List Int)) : List (List Int) := L.mergeSort fun a b => !lexL b a
@[simp] def gSortedT : List D → (D → Prop) → Prop
  | [.py (.list xs)], Q => ∃ L : List (List Int), xs = L.map tI ∧ (∀ l ∈ L, l ≠ []) ∧ Q (.py (.list ((sortT L).map tI)))
  | _, _ => False
section
variable {X : Cx} {b : Bg} {W : WX} {e : Expr} {es : List Expr} {u : VA} {p pos : Pos}
end
end VL
set_option Elab.async false
set_option linter.all false
set_option maxRecDepth 100000
set_option maxHeartbeats 4000000
/-! VL52: defs that show values (repr within a def): called where nothing is being shown -/
namespace VL
open PySem PySem.Spec PyProof.Rows L2
structure FnL (P : Program) (w : World) (K : PySem.W.Frag) (mg : Str → Option Value) (base : Heap) (k : Nat) (f : Addr) (fd : FuncData) (ps : List Str) (sp : Sp) : Prop where
  len : ∀ vs H Q E, sp vs H Q E → vs.length = ps.length
  g : FnG P w K mg base k f fd ps sp
section
variable {P : Program} {w : World} {K : PySem.W.Frag} {mg : Str → Option Value} {base : Heap} {b : Bg} {k : Nat} {f : Addr} {fd : FuncData} {N ps : List Str} {S : SV} {st : Stmt} {x qual : Str}
end
structure CalG (P : Program) (w : World) (K : PySem.W.Frag) (mg : Str → Option Value) (base : Heap) (b : Bg) (k : Nat) (x : Str) (ps : List Str) (S : SV) where
  f : Addr
  fd : FuncData
  F : FnL P w K mg base k f fd ps (spV b S)
  g : mg x = some (.ref f)
  kp : PySem.W.keepIn K (.ref f) = true
  bd : Binds K fd ps []
section
variable {X : Cx} {b : Bg} {W : WX} {k j : Nat} {f : Addr} {fd : FuncData} {ps : List Str} {S : SV} {x : Str} {e : Expr} {es : List Expr} {u : VA} {p pos : Pos} {sp : Sp} {E : L2.St → XK} {t : TA}
end
end VL
set_option Elab.async false
set_option linter.all false
set_option maxRecDepth 100000
set_option maxHeartbeats 4000000
/-! VL53: is True, is not True of bools -/
namespace VL
open PySem PySem.Spec PyProof.Rows L2
@[simp] def gIsB (neg : Bool) : D → D → (D → Prop) → Prop
  | .py (.bool a), .py (.bool b), Q => Q (.py (.bool (neg ^^ decide (a = b))))
  | _, _, _ => False
section
variable {X : Cx} {b : Bg} {W : WX} {e1 e2 : Expr} {t1 t2 : VT} {pos : Pos}
end
end VL
set_option Elab.async false
set_option linter.all false
set_option maxRecDepth 100000
set_option maxHeartbeats 4000000
/-! VL54: list(text) -/
namespace VL
open PySem PySem.Spec PyProof.Rows L2
section
variable {X : Cx}
end
@[simp] def gListA : List D → (D → Prop) → Prop
  | [.py (.list xs)], Q => Q (.py (.list xs))
  | [.py (.tuple xs)], Q => Q (.py (.list xs))
  | [.py (.str z)], Q => z.length ≤ sizeLine ∧ Q (.py (.list (signsD z)))
  | _, _ => False
section
variable {X : Cx} {b : Bg} {W : WX} {e : Expr} {es : List Expr} {u : VA} {p pos : Pos}
end
end VL
set_option Elab.async false
set_option linter.all false
set_option maxRecDepth 100000
set_option maxHeartbeats 4000000
/-! VL55: () * k -/
namespace VL
open PySem PySem.Spec PyProof.Rows L2
open AutoSeq1 (wpAny_loadPart')
section
variable {X : Cx}
end
section
variable {X : Cx} {b : Bg} {W : WX} {e1 e2 : Expr} {t1 t2 : VT} {pos : Pos}
/-- .. of a tuple that may be empty -/
@[simp] def gMulT : D → D → (D → Prop) → Prop
  | .py (.tuple xs), .py (.int k), Q => (0 ≤ k ∧ 2 ≤ k ∧ k ≤ 1000 ∧ xs.length ≤ 1000) ∧ Q (.py (.tuple (List.replicate k.toNat xs).flatten))
  | _, _, _ => False
end
end VL
set_option Elab.async false
set_option linter.all false
set_option maxRecDepth 100000
set_option maxHeartbeats 4000000
/-! VL56: a sign in a text -/
namespace VL
open PySem PySem.Spec PyProof.Rows L2 HT
open Builtin.Str in
theorem occ_full (z : Str) (c k lim : Nat) (st : Array Nat × Nat) (h2 : ¬ st.1.size < lim) : StrLaws.occBody z ⟨#[c]⟩ z.length lim k st = pure (ForInStep.yield (st.1, st.2)) := by
  unfold StrLaws.occBody
  rw [if_neg (fun q => h2 q.1.1.1)]
theorem occ_one (z : Str) (c : Nat) : ∀ (n k free : Nat) (acc : Array Nat), free ≤ k → k + n = z.length + 1 →
    (0 < (forIn (List.range' k n) (acc, free) (StrLaws.occBody z ⟨#[c]⟩ z.length 1)).run.fst.size ↔ (0 < acc.size ∨ c ∈ (sl z).drop k))
  | 0, k, free, acc, h1, h3 => by
    have : (sl z).drop k = [] := List.drop_eq_nil_of_le (by rw [slen]; omega)
    rw [this]; simp
  | n + 1, k, free, acc, h1, h3 => by
    rw [List.range'_succ, List.forIn_cons]
    by_cases ha : acc.size < 1
    · rw [occ_step z c k _ (acc, free) h1 (by show acc.size < _; omega)]
      by_cases hk : k < z.length
      · have hk' : k < (sl z).length := by rw [slen]; exact hk
        rw [List.drop_eq_getElem_cons hk', List.getElem?_eq_getElem hk']
        by_cases hc : (sl z)[k] = c
        · rw [if_pos (by rw [hc])]
          have := occ_one z c n (k + 1) (k + 1) (acc.push k) (by omega) (by omega)
          simp only [pure_bind]
          rw [this, Array.size_push]
          simp [hc]
        · rw [if_neg (by simpa using hc)]
          have := occ_one z c n (k + 1) free acc (by omega) (by omega)
          simp only [pure_bind]
          rw [this]
          have hc' : ¬ c = (sl z)[k] := fun e => hc e.symm
          have hm : (c ∈ (sl z)[k] :: (sl z).drop (k + 1)) ↔ c ∈ (sl z).drop (k + 1) := by
            rw [List.mem_cons]; exact ⟨fun h => h.resolve_left hc', .inr⟩
          rw [hm]
      · have e : (sl z).drop k = [] := List.drop_eq_nil_of_le (by rw [slen]; omega)
        rw [if_neg (by rw [List.getElem?_eq_none (by rw [slen]; omega)]; simp), e]
        have := occ_one z c n (k + 1) free acc (by omega) (by omega)
        have e2 : (sl z).drop (k + 1) = [] := List.drop_eq_nil_of_le (by rw [slen]; omega)
        rw [e2] at this
        simp only [pure_bind]
        exact this
    · rw [occ_full z c k 1 (acc, free) ha]
      have := occ_one z c n (k + 1) free acc (by omega) (by omega)
      simp only [pure_bind]
      rw [this]
      have : 0 < acc.size := by omega
      simp [this]
theorem contains_sign (z : Str) (c : Nat) : Txt.contains z (mkS [c]) = decide (c ∈ sl z) := by
  unfold Txt.contains
  have h := occ_one z c (z.length + 1 - 0) 0 0 #[] (by omega) (by omega)
  rw [StrLaws.occ_eq]
  have h' : 0 < (forIn (List.range' 0 (z.length + 1 - 0)) (#[], 0) (StrLaws.occBody z (mkS [c]) z.length 1)).run.fst.size ↔ c ∈ sl z := by
    refine h.trans ?_
    simp
  rw [Bool.eq_iff_iff, decide_eq_true_eq, ← h']
  generalize (forIn (List.range' 0 (z.length + 1 - 0)) (#[], 0) (StrLaws.occBody z (mkS [c]) z.length 1)).run.fst = A
  obtain ⟨A⟩ := A
  cases A <;> simp
@[simp] theorem contains_mkS (l : List Nat) (c : Nat) : Txt.contains (mkS l) (mkS [c]) = decide (c ∈ l) := by rw [contains_sign, sl_mkS]
end VL
set_option Elab.async false
set_option linter.all false
set_option maxRecDepth 100000
set_option maxHeartbeats 4000000
/-! VL57: x or y, where x is a text -/
namespace VL
open PySem PySem.Spec PyProof.Rows L2 HT
variable {X : Cx} {b : Bg} {W : WX} {e1 e2 : Expr} {es : List Expr} {pos : Pos} {t1 t2 : VT}
@[simp] def vOrS (ta tb : VT) : VT := fun ρ Q E => ta ρ (fun x => ∃ z : Str, x = .py (.str z) ∧ z.length ≤ 16777214 ∧ if z.length = 0 then tb ρ Q E else Q (.py (.str z))) E
end VL
set_option Elab.async false
set_option linter.all false
set_option maxRecDepth 100000
set_option maxHeartbeats 4000000
/-! VL58: a background with tables of code objects (for defs that make lambdas) -/
namespace VL
open PySem PySem.Spec PyProof.Rows L2
section
variable {b : Bg} {T : List (Addr × Str)} {Z : Addr → Prop} {H H' : Hp}
end
end VL
set_option Elab.async false
set_option linter.all false
set_option maxRecDepth 100000
set_option maxHeartbeats 4000000
/-! VL59: a lambda without parameters is made; it is called where it was handed to -/
namespace VL
open PySem PySem.Spec PyProof.Rows L2
open LamX (CodeO Tabs TabS TabB LamS lamEnv lamCx)
section
variable {X : Cx} {pins : List (Addr × Obj)} {σ : L2.St} {H : Hp} {s : Shared}
end
section
variable {X : Cx} {pins : List (Addr × Obj)} {σ : L2.St} {H : Hp} {s : Shared}
end
end VL
set_option Elab.async false
set_option linter.all false
set_option maxRecDepth 100000
set_option maxHeartbeats 4000000
/-! VL60: told(lambda: ..): the def tries what it got and tells the result or the error -/
namespace VL
open PySem PySem.Spec PyProof.Rows L2
open LamX (CodeO Tabs TabS TabB LamS lamEnv lamCx)
/-- what is told of an error -/
def toldE (names : List Str) (th : Addr → Option Addr → Er → VS) (tr : VS) (er : Er) (Q : D → Prop) : Prop := er.n ∈ names ∧ errSub er.n "LineError" = true ∧
  ∀ f a d, th a d er [.shr (.raw f), .own (.py (.list [])), .shr (.err a d er.n er.fs)] (afterS 2 { nx := fun ρ => tr ρ (fin Q noE), rt := Q, bk := fun _ => False, ct := fun _ => False, ex := fun _ _ => False })
@[simp] def vTold (names : List Str) (th : Addr → Option Addr → Er → VS) (tr : VS) (te : VT) : VT := fun ρ Q E => te ρ (fun d => ∃ p, d = .py p ∧ Q (.py (.tuple [.str "result", p]))) (fun er => toldE names th tr er Q)
section
variable {X : Cx} {b : Bg} {T : List (Addr × Str)}
end
end VL
set_option Elab.async false
set_option linter.all false
set_option maxRecDepth 100000
set_option maxHeartbeats 4000000
/-! VL61: the law's end with tables of code objects -/
namespace VL
open PySem PySem.Spec PyProof.Rows L2
end VL
set_option Elab.async false
set_option linter.all false
set_option maxRecDepth 100000
set_option maxHeartbeats 4000000
/-! VL62: defs that make lambdas; the def that is given them, as a promise -/
namespace VL
open PySem PySem.Spec PyProof.Rows L2
open LamX (LamS lamEnv lamCx)
section
variable {P : Program} {w : World} {K : PySem.W.Frag} {mg : Str → Option Value} {base : Heap} {b : Bg} {T : List (Addr × Str)}
end
/-! ### the code object of a def -/
section
variable {P : Program} {w : World} {K : PySem.W.Frag} {mg : Str → Option Value} {base : Heap} {b : Bg} {k : Nat} {x qual : Str} {st : Stmt} {f c : Addr} {fd : FuncData} {N ps : List Str} {S : SV} {sp : Sp}
end
end VL
set_option Elab.async false
set_option linter.all false
set_option maxRecDepth 100000
set_option maxHeartbeats 4000000
/-! VL63: the law's head where the law makes lambdas; the jug as a background with tables -/
namespace VL
open PySem PySem.Spec PyProof.Rows L2
section
variable {P : Program} {w : World} {K : PySem.W.Frag} {mg : Str → Option Value} {base : Heap} {k k0 : Nat} {st : Stmt} {f fo c : Addr} {fd fdo : FuncData} {N : List Str}
end
/-! ### what is never reached -/
@[simp] def vNo : VT := fun _ _ _ => False
@[simp] def sNo : VS := fun _ _ => False
end VL
set_option Elab.async false
set_option linter.all false
set_option maxRecDepth 100000
set_option maxHeartbeats 4000000
/-! VL64: sorted(set(t)), t a tuple of ints -/
namespace VL
open PySem PySem.Spec PyProof.Rows L2
section
variable {X : Cx}
end
@[simp] def vSortSet (t : VT) : VT := fun ρ Q E => t ρ (fun d => ∃ xs ns, d = .py (.tuple xs) ∧ allI xs = some ns ∧ ns.length < 63 ∧ ∀ ks : List Int, ks.Pairwise (· < ·) → (∀ j, j ∈ ks ↔ j ∈ ns) → Q (.py (.list (ks.map PyData.int)))) E
end VL
set_option Elab.async false
set_option linter.all false
set_option maxRecDepth 100000
set_option maxHeartbeats 4000000
/-! VL65: t * k, k at least 1, of a tuple that is not empty -/
namespace VL
open PySem PySem.Spec PyProof.Rows L2
open AutoSeq1 (wpAny_loadPart')
section
variable {X : Cx}
end
section
variable {X : Cx} {b : Bg} {W : WX} {e1 e2 : Expr} {t1 t2 : VT} {pos : Pos}
@[simp] def gMulP : D → D → (D → Prop) → Prop
  | .py (.tuple xs), .py (.int k), Q => (xs ≠ [] ∧ 1 ≤ k ∧ k ≤ 1000 ∧ xs.length ≤ 1000) ∧ Q (.py (.tuple (List.replicate k.toNat xs).flatten))
  | _, _, _ => False
end
end VL
set_option Elab.async false
set_option linter.all false
set_option maxRecDepth 100000
set_option maxHeartbeats 4000000
/-! VL66: a caught error handed to a def that asks it -/
namespace VL
open PySem PySem.Spec PyProof.Rows L2
open L2H (PinOk RoomH cxH inv_startH)
abbrev SE := Er → (D → Prop) → Prop
def svE (a : Addr) (d : Option Addr) (er : Er) (S : SE) : SV := fun ds Q _ => ds = [.err a d er.n er.fs] ∧ S er Q
/-- what such a def promises: within a suite, of the error that is handled -/
structure FnE (P : Program) (w : World) (K : PySem.W.Frag) (mg : Str → Option Value) (base : Heap) (b : Bg) (k : Nat) (f : Addr) (fd : FuncData) (ps : List Str) (S : SE) : Prop where
  len : ps.length = 1
  run : ∀ (A : Around) (outer : List Env) (s : Shared) (H : Hp) (args : Args) (Q : VK) (p : Addr × Obj) (d : Option Addr) (er : Er), RoomH k A → A.handled = some (.ref p.1) → (∃ vs : Array Value, p.2.data = .fields vs) → Zc (.ref (b.cls er.n)) d p.2 → PinOk outer H s p →
    Env0 P w K mg base A outer s H → BindsTo s fd args (ps.zip [.ref p.1]) → spV b (svE p.1 d er S) [.ref p.1] H Q (fun _ _ _ => False) → codeAny (model P w) A (.call (.ref f) args) (CR (L2.CX P w) outer P w H s Q (fun _ _ _ => False)) s
section
variable {P : Program} {w : World} {K : PySem.W.Frag} {mg : Str → Option Value} {base : Heap} {b : Bg} {k : Nat} {x qual : Str} {st : Stmt} {f : Addr} {fd : FuncData} {N ps : List Str} {S : SE}
end
/-- a def that asks an error: all that its call wants -/
structure CalE (P : Program) (w : World) (K : PySem.W.Frag) (mg : Str → Option Value) (base : Heap) (b : Bg) (k : Nat) (x : Str) (ps : List Str) (S : SE) where
  f : Addr
  fd : FuncData
  F : FnE P w K mg base b k f fd ps S
  g : mg x = some (.ref f)
  kp : PySem.W.keepIn K (.ref f) = true
  bd : Binds K fd ps []
@[simp] def vCallE (a : Addr) (d : Option Addr) (er : Er) (i : Nat) (S : SE) : VT := fun ρ Q _ => ρ[i]? = some (.shr (.err a d er.n er.fs)) ∧ S er Q
section
variable {X : Cx} {b : Bg} {W : WX} {a : Addr} {oe : Obj} {er : Er} {d : Option Addr} {pn : List (Addr × Obj)} {i k : Nat} {x : Str} {ps : List Str} {S : SE} {e : Expr} {p pos : Pos}
end
end VL
set_option Elab.async false
set_option linter.all false
set_option maxRecDepth 100000
set_option maxHeartbeats 4000000
/-! VL67: the crank: a list of two numbers and a list -/
namespace VL
open PySem PySem.Spec PyProof.Rows L2
end VL
set_option Elab.async false
set_option linter.all false
set_option maxRecDepth 100000
set_option maxHeartbeats 4000000
/-! VL68: parameters ahead of a star; keyword-only parameters. -/
namespace VL
open PySem PySem.Spec PyProof.Rows L2
/-! ### def f(a, .., *v) -/
@[simp] def svStarN (n : Nat) (S : SV) : SV := fun ds Q E => n ≤ ds.length ∧ ∃ ps, pys (ds.drop n) = some ps ∧ ps.length ≤ sizeLine ∧ S (ds.take n ++ [.py (.tuple ps)]) Q E
theorem Rps.append {b : Bg} {Z : Addr → Prop} {H : Hp} : ∀ {v w : List V} {d e : List D}, Rps b Z H v d → Rps b Z H w e → Rps b Z H (v ++ w) (d ++ e)
  | _, _, _, _, .nil, s => s
  | _, _, _, _, .cons r t, s => .cons r (Rps.append t s)
section
variable {CX : CXT} {P : Program} {w : World} {K : PySem.W.Frag} {mg : Str → Option Value} {base : Heap} {k : Nat} {f : Addr} {name qual : Str} {params : Arguments} {body : List Stmt} {scope : Scope} {dV kV doc pm cdv ct oc : Value} {an od : Option Addr}
  {osl : Array (Option Value)} {N ps : List Str} {sp : Sp}
end
section
variable {P : Program} {w : World} {K : PySem.W.Frag} {mg : Str → Option Value} {base : Heap} {b : Bg} {k : Nat} {x qual pv : Str} {st : Stmt} {f : Addr} {fd : FuncData} {N ps : List Str} {S : SV}
end
/-! ### def f(a, .., *, k=c) -/
structure CalW (P : Program) (w : World) (K : PySem.W.Frag) (mg : Str → Option Value) (base : Heap) (b : Bg) (k : Nat) (x : Str) (ps : List Str) (kn : Str) (dv : PyData) (S : SV) where
  f : Addr
  fd : FuncData
  F : FnOk P w K mg base (L2.CX P w) k f fd (ps ++ [kn]) (spV b S)
  g : mg x = some (.ref f)
  kp : PySem.W.keepIn K (.ref f) = true
  b0 : ∃ v ds, Vals [v] ds ∧ Binds K fd (ps ++ [kn]) ds ∧ ∀ Z H, Rq Z H v dv
  b1 : KBn K fd (ps ++ [kn]) ps.length [kn] (fun us ws => us ++ ws) (fun vs zs => vs ++ zs)
@[simp] def svW (dv : PyData) (S : SV) : SV := fun ds Q E => S (ds ++ [.py dv]) Q E
@[simp] def vCallW (S : SV) (u : VA) (t : VT) : VT := fun ρ Q E => u ρ (fun ds => t ρ (fun d => S (ds ++ [d]) Q E) E) E
section
variable {X : Cx} {b : Bg} {W : WX} {k j : Nat} {x kn : Str} {ps : List Str} {dv : PyData} {S : SV} {e e2 : Expr} {es : List Expr} {u : VA} {t : VT} {p pos kpos : Pos}
end
end VL
set_option Elab.async false
set_option linter.all false
set_option maxRecDepth 100000
set_option maxHeartbeats 4000000
/-! VL69: text.index(text) -/
namespace VL
open PySem PySem.Spec PyProof.Rows L2
@[simp] def gTIndex : D → List D → (D → Prop) → Prop
  | .py (.str a), [.py (.str b)], Q => ∃ i rest, Builtin.Str.occurrences a b 0 a.length 1 = i :: rest ∧ Q (.py (.int (i : Nat)))
  | _, _, _ => False
/-! ### x is True where x may be None -/
@[simp] def gIsBn : D → D → (D → Prop) → Prop
  | .py (.bool a), .py (.bool b), Q => Q (.py (.bool (decide (a = b))))
  | .py .none, .py (.bool _), Q => Q (.py (.bool false))
  | _, _, _ => False
section
variable {X : Cx} {b : Bg} {W : WX} {e1 e2 : Expr} {t1 t2 : VT} {pos : Pos}
end
end VL
set_option Elab.async false
set_option linter.all false
set_option maxRecDepth 100000
set_option maxHeartbeats 4000000
/-! VL70: max, min of a tuple of ints -/
namespace VL
open PySem PySem.Spec PyProof.Rows L2
section
variable {X : Cx}
end
@[simp] def gMaxT : List D → (D → Prop) → Prop
  | [.py (.tuple xs)], Q => ∃ ns, allI xs = some ns ∧ ns ≠ [] ∧ Q (.py (.int (maxL ns)))
  | _, _ => False
@[simp] def gMinT : List D → (D → Prop) → Prop
  | [.py (.tuple xs)], Q => ∃ ns, allI xs = some ns ∧ ns ≠ [] ∧ Q (.py (.int (minL ns)))
  | _, _ => False
section
variable {X : Cx} {b : Bg} {W : WX} {e : Expr} {es : List Expr} {u : VA} {p pos : Pos} {t : VT}
end
end VL
set_option Elab.async false
set_option linter.all false
set_option maxRecDepth 100000
set_option maxHeartbeats 4000000
/-! VL71: a list comprehension whose items may raise -/
namespace VL
open PySem PySem.Spec PyProof.Rows L2
end VL
namespace VL
open PySem PySem.Spec PyProof.Rows L2
section
variable {M : Model} {A : Around} {E : Value → Shared → Prop} {s : Shared} {env : Env}
end
end VL
namespace VL
open PySem PySem.Spec PyProof.Rows L2
section
variable {X : Cx}
end
end VL
namespace VL
open PySem PySem.Spec PyProof.Rows L2
section
variable {X : Cx}
end
/-! ### over values -/
@[simp] def lcGoE (g : VTg) (tt : VB) (te : VT) (Q : D → Prop) (E : Er → Prop) : List D → List PyData → VEnv → Prop
  | [], acc, _ => Q (.py (.list acc))
  | d :: ds, acc, ρ => g d ρ fun ρ1 => tt ρ1 (fun k => if k = true then te ρ1 (fun y => ∃ p, y = .py p ∧ acc.length < sizeLine ∧ lcGoE g tt te Q E ds (acc ++ [p]) ρ) E else lcGoE g tt te Q E ds acc ρ) noE
@[simp] def vLcE (vs : List Nat) (ti : VIt) (g : VTg) (tt : VB) (te : VT) : VT := fun ρ Q E => noOwn ρ vs ∧ ti ρ (fun ds => lcGoE g tt te Q E ds [] (wipeE ρ vs)) E
section
variable {b : Bg} {W : WX} {ti : VIt} {js : List Nat} {g : VTg} {tt : VB} {te : VT} {vs : List Nat}
end
section
variable {X : Cx} {b : Bg} {W : WX} {tg iter elt c : Expr} {ifs : List Expr} {scope : Scope} {own : List (Str × Nat)} {pos spos py p : Pos} {ti : VIt} {js : List Nat} {g : VTg} {tt : VB} {te : VT} {i : Nat} {y : Str}
end
end VL
set_option Elab.async false
set_option linter.all false
set_option maxRecDepth 100000
set_option maxHeartbeats 4000000
/-! VL72: own objects: fields, __init__, methods -/
namespace VL
open PySem PySem.Spec PyProof.Rows L2
/-! ### fields -/
@[simp] def gFld (n f : Str) : D → (D → Prop) → Prop
  | .obj _ m fs, Q => m = n ∧ ∃ p, fs.lookup f = some p ∧ Q (.py p)
  | _, _ => False
/-- the field f is p from now on -/
@[simp] def putFD (f : Str) (p : PyData) : List (Str × PyData) → List (Str × PyData)
  | [] => [(f, p)]
  | (g, x) :: r => if g = f then (g, p) :: r else (g, x) :: putFD f p r
theorem Rqf.put {Z : Addr → Prop} {H : Hp} {f : Str} {v : V} {p : PyData} (r : Rq Z H v p) : ∀ {xs : List (Str × V)} {fs : List (Str × PyData)}, Rqf Z H xs fs → Rqf Z H (putF f v xs) (putFD f p fs)
  | _, _, .nil => .cons r .nil
  | _, _, .cons (k := k) q t => by
    unfold putF putFD
    by_cases e : k = f
    · rw [if_pos e, if_pos e]; exact .cons r t
    · rw [if_neg e, if_neg e]; exact .cons q (Rqf.put r t)
theorem Rqf.len {Z : Addr → Prop} {H : Hp} : ∀ {xs : List (Str × V)} {fs : List (Str × PyData)}, Rqf Z H xs fs → xs.length = fs.length
  | _, _, .nil => rfl
  | _, _, .cons _ t => congrArg (· + 1) (Rqf.len t)
theorem Rqf.none {Z : Addr → Prop} {H : Hp} {f : Str} : ∀ {xs : List (Str × V)} {fs : List (Str × PyData)}, Rqf Z H xs fs → fs.lookup f = none → xs.lookup f = none
  | _, _, .nil, _ => rfl
  | _, _, .cons (k := k) r t, e => by
    rw [List.lookup_cons] at e ⊢
    cases h : f == k with
    | true => rw [h] at e; cases e
    | false => rw [h] at e; exact Rqf.none t e
section
variable {X : Cx} {b : Bg} {W : WX} {e o : Expr} {n f : Str} {t : VT} {pos pos' : Pos} {i : Nat}
theorem ve_fld (c : Cls X.K (b.cls n)) (na : NoAttr X.K (b.cls n) f) (h : VX X b W e t) (hb : attributeBase e f X.env (eval e X.env) = eval e X.env := by rfl) : VE X b W (.Attribute e f pos) (vUn (gFld n f) t) :=
  pe_mono (pe_fld h hb) fun σ H Q ⟨Zo, Z, ρ, Qd, Ed, v, q, l, m⟩ => ⟨Zo, Z, ρ, _, Ed, v, q, fun x H1 d x1 g1 r1 q1 => by
    match d, q1, r1 with
    | .obj a _ fs, ⟨rfl, p, hp, q1⟩, r1 =>
      rcases r1 with ⟨dx, xs, rfl, hH, _, rq⟩ | ⟨a', rfl, _, _, rfl, dx, xs, hH, rq⟩
      · obtain ⟨u, hu, ru⟩ := rq.look hp
        exact ⟨a, _, dx, xs, u, rfl, hH, c, na, hu, l u H1 (.py p) x1 g1 ru q1⟩
      · obtain ⟨u, hu, ru⟩ := rq.look hp
        exact ⟨_, _, dx, xs, u, rfl, hH, c, na, hu, l u H1 (.py p) x1 g1 ru q1⟩, m⟩
@[simp] def sFldS (i : Nat) (n f : Str) (t : VT) : VS := fun ρ De => t ρ (fun d => ∃ p a fs, d = .py p ∧ ρ[i]? = some (.own (.obj a n fs)) ∧ fs.length < 1000 ∧ De.nx (ρ.set i (.own (.obj a n (putFD f p fs))))) (De.ex ρ)
theorem vs_fld (c : Cls X.K (b.cls n)) (na : NoAttr X.K (b.cls n) f) (ho : PE X o (tVar i)) (he : VE X b W e t) (hs : swapsWith e (some (.Attribute o f pos')) pos.line X.env = pure false := by rfl) : VSt X b W (.Assign [.Attribute o f pos'] e pos) (sFldS i n f t) :=
  ps_mono (ps_fld ho he hs) fun D σ H ⟨H0, M, Zo, Z, ρ, De, fo, q, l⟩ => ⟨Zo, Z, ρ, _, _, fo.v, q, fun v H' d x g r ⟨p, a, fs, ed, er, hl, q2⟩ => by
    subst ed
    have f1 := fo.ex x g
    obtain ⟨a', h1, h2, h3, ea, dx, xs, h4, h5⟩ := f1.v.own i _ er
    subst ea
    refine ⟨.ref a', h1, a', b.cls n, dx, xs, rfl, h4, c, na, by rw [h5.len]; exact hl, l.nx _ _ _ _ (f1.mut (d' := .obj a' n (putFD f p fs)) er h1 ⟨rfl, dx, putF f v xs, upd_same, ?_⟩) q2⟩
    have up_ : ∀ b2 u, H' b2 = some u → ¬ Z b2 → upd H' a' (.ins (b.cls n) dx (putF f v xs)) b2 = some u := fun b2 u ee nz => by
      rw [upd_ne (fun w => nz (by rw [w]; exact h2))]
      exact ee
    exact Rqf.put (Rq.mono (fun _ z => .inl z) up_ r) (h5.mono (fun _ z => .inl z) up_), l.er fo⟩
end
/-! ### what an __init__ promises -/
abbrev SI := List D → (List (Str × PyData) → Prop) → (Er → Prop) → Prop
def spI (b : Bg) (n : Str) (S : SI) : Sp := fun vs H Q E => ∃ (x dx : Addr) (vs' : List V) (Z : Addr → Prop) (ds : List D) (Qd : List (Str × PyData) → Prop) (Ed : Er → Prop), vs = .ref x :: vs' ∧ H x = some (.ins (b.cls n) dx []) ∧ Gd b Z H ∧ ¬ Z x ∧ Rps b (fun c => Z c ∨ c = x) H vs' ds ∧ S ds Qd Ed ∧
  (∀ H' fs, (∀ a o, H a = some o → ¬ b.B a → a ≠ x → H' a = some o) → b.G H' → Ow b (fun c => Z c ∨ c = x) H' x (.obj x n fs) → Qd fs → Q .non H') ∧
  ∀ c d H' er, (∀ a o, H a = some o → ¬ b.B a → a ≠ x → H' a = some o) → b.G H' → ErRp b Z H' c d er → Ed er → E c d H'
@[simp] def envI (x : Addr) (n : Str) (N : Nat) (ds : List D) : VEnv := .own (.obj x n []) :: envOf (N - 1) ds
@[simp] def finI (x : Addr) (n : Str) (Q : List (Str × PyData) → Prop) (E : Er → Prop) : VEnds := { nx := fun ρ => ∃ fs, ρ[0]? = some (.own (.obj x n fs)) ∧ Q fs, rt := fun _ => False, bk := fun _ => False, ct := fun _ => False, ex := fun _ => E }
theorem VOk.entryI {b : Bg} {Z : Addr → Prop} {H : Hp} {N : List Str} {vs : List V} {ds : List D} {x dx : Addr} {n : Str} (g : Gd b Z H) (nz : ¬ Z x) (hx : H x = some (.ins (b.cls n) dx [])) (r : Rps b (fun c => Z c ∨ c = x) H vs ds) (hl : vs.length + 1 ≤ N.length) :
    VOk b Z (fun c => Z c ∨ c = x) (L2.start N (.ref x :: vs)) H (envI x n N.length ds) where
  g := g.g
  zb := g.zb
  zo := fun _ z => .inl z
  dom := fun a z => z.elim (g.dom a) fun e => by rw [e, hx]; simp
  zi := fun a z => z.imp id fun e => ⟨0, .obj x n [], rfl, by rw [e]; rfl⟩
  own := fun i d e => by
    cases i with
    | zero =>
      simp only [envI, List.getElem?_cons_zero, Option.some.injEq, Slot.own.injEq] at e
      subst e
      exact ⟨x, rfl, .inr rfl, nz, rfl, dx, [], hx, .nil⟩
    | succ i =>
      rw [envI, List.getElem?_cons_succ] at e
      rcases envOf_at e with h | ⟨d', h, _⟩ <;> cases h
  inj := fun i j d e a h1 h2 _ _ => by
    have z : ∀ (i : Nat) (d : D), (envI x n N.length ds)[i]? = some (.own d) → i = 0 := fun i d e => by
      cases i with
      | zero => rfl
      | succ i =>
        rw [envI, List.getElem?_cons_succ] at e
        rcases envOf_at e with h | ⟨d', h, _⟩ <;> cases h
    rw [z i d h1, z j e h2]
  shr := fun i d e => by
    cases i with
    | zero =>
      simp only [envI, List.getElem?_cons_zero, Option.some.injEq] at e
      cases e
    | succ i =>
      rw [envI, List.getElem?_cons_succ] at e
      rcases envOf_at e with h | ⟨d', h, hd⟩
      · cases h
      · cases h
        obtain ⟨v, hv, rv⟩ := r.at hd
        refine ⟨v, ?_, rv⟩
        unfold L2.start
        rw [List.map_cons, List.cons_append, List.getElem?_cons_succ]
        have hi : i < vs.length := (List.getElem?_eq_some_iff.mp hv).1
        rw [List.getElem?_append_left (by simpa using hi), List.getElem?_map, hv]
        rfl
  len := by
    unfold envI envOf L2.start
    simp only [List.length_cons, List.length_append, List.length_map, List.length_replicate, ← r.length]
    omega
section
variable {P : Program} {w : World} {K : PySem.W.Frag} {mg : Str → Option Value} {base : Heap} {b : Bg} {k : Nat} {x qual n : Str} {st : Stmt} {f : Addr} {fd : FuncData} {N ps : List Str} {S : SI}
theorem fin_linkI {t : VS} {H : Hp} {vs : List V} {Q : VK} {E : XK} (hlaw : ∀ x ds Q E, S ds Q E → t (envI x n N.length ds) (finI x n Q E)) (hl : vs.length ≤ N.length) (h : spI b n S vs H Q E) :
    LS b (WF E) t { nx := fun _ H' => Q .non H', rt := Q } (L2.start N vs) H := by
  obtain ⟨x, dx, vs', Z, ds, Qd, Ed, rfl, hx, g, nz, r, s, l, m⟩ := h
  have vo := VOk.entryI g nz hx r (N := N) (by simpa using hl)
  refine ⟨H, fun c => c = x, Z, _, envI x n N.length ds, finI x n Qd Ed, ⟨vo, fun _ _ e _ _ => e, fun i d a e h2 => ?_⟩, hlaw x ds Qd Ed s, ⟨fun Z' σ' H' ρ' f' ⟨fs, e, q⟩ => ?_, fun _ _ _ _ _ _ q => q.elim, fun _ _ _ _ _ q => q.elim, fun _ _ _ _ _ q => q.elim, fun c y Z' σ' H' ρ' er f' r' q => m c y H' er f'.ext f'.v.g ?_ q, fun _ _ _ _ _ _ _ _ q => q.elim⟩⟩
  · left
    cases i with
    | zero =>
      have : some (some (V.ref x)) = some (some (V.ref a)) := h2
      simpa using this.symm
    | succ i =>
      rw [envI, List.getElem?_cons_succ] at e
      rcases envOf_at e with h | ⟨d', h, _⟩ <;> cases h
  · obtain ⟨a, h1, h2, h3, h4⟩ := f'.v.own 0 _ e
    obtain ⟨ea, dx', xs, h5, h6⟩ := id h4
    subst ea
    exact l H' fs f'.ext f'.v.g (h4.mono (fun c z => .inl (z.elim (f'.v.zo c) fun q => by rw [q]; exact h2)) (fun _ _ e _ => e) fun _ e => e) q
  · obtain ⟨h1, h2⟩ := r'
    refine ⟨h1, h2.imp id ?_⟩
    rintro ⟨a, xs, e1, e2, e3, e4⟩
    exact ⟨a, xs, e1, e2, fun z => e3 (f'.v.zo a z), e4.mono (fun c z => .inl (f'.v.zo c z)) fun _ _ e _ => e⟩
/-- an __init__ of the text, by its body -/
theorem fnI (F : Fun K x qual st f fd) (Sc : FnScope N ps (defScope st)) {t : VS} (hlen : ∀ ds Q E, S ds Q E → ds.length + 1 = ps.length) (hps : ps.length ≤ N.length)
    (hbody : ∀ (cdv : Value) (A : Around) (outer : List Env) (s : Shared) (H : Hp) (E : XK), Room k (A.deeper (envOfC qual (defScope st) s.heap.objs.size f cdv)) →
      Takes (cxOf (L2.CX P w) P w K mg base N qual (defScope st) f cdv A outer s H E) (WF E) → VSs (cxOf (L2.CX P w) P w K mg base N qual (defScope st) f cdv A outer s H E) b (WF E) (defBody st) t)
    (hlaw : ∀ x ds Q E, S ds Q E → t (envI x n N.length ds) (finI x n Q E)) : FnOk P w K mg base (L2.CX P w) (k + 1) f fd ps (spI b n S) := by
  have len : ∀ vs H Q E, spI b n S vs H Q E → vs.length = ps.length := fun vs H Q E ⟨x, dx, vs', Z, ds, Qd, Ed, e, _, _, _, r, s, _⟩ => by
    rw [e, List.length_cons, r.length]; exact hlen ds Qd Ed s
  refine F.okX Sc len fun cdv A outer s H vs Q E hr h => ⟨_, hbody cdv A outer s H E hr (takes_of rfl rfl rfl rfl), fin_linkI hlaw (Nat.le_trans (Nat.le_of_eq (len _ _ _ _ h)) hps) h⟩
end
/-! ### n(..) -/
section
variable {X : Cx} {CX : CXT} {k : Nat} {f C : Addr} {fd : FuncData} {ps : List Str} {sp : Sp} {dvs : List V} {ds : List Value} {E : L2.St → XK} {x m : Str} {p pos apos : Pos} {e o : Expr} {es : List Expr} {ta : TE} {t : TA}
def tMakeS (C : Addr) (sp : Sp) (E : L2.St → XK) (t : TA) : TE := fun σ H Q => t σ H fun vs H1 => ∀ x dx, H1 x = none → H1 dx = none → dx ≠ x →
  sp (.ref x :: vs) (upd (upd H1 dx (.own x)) x (.ins C dx [])) (fun v H2 => v = .non ∧ Q (.ref x) H2) (E σ)
theorem run_makeS {pins : List (Addr × Obj)} {σ : L2.St} {H : Hp} {s : Shared} {Q : VK} {us : List Value} {vs : List V} (M : Mk X.K C f) (F : FnOk X.prog X.w X.K X.mg X.base CX k f fd ps sp) (hr : Room (k + 1) X.A) (hb : Binds X.K fd ps [])
    (hx : PassesAt CX X σ (E σ)) (I : Inv X pins σ H s) (r : Vals vs us)
    (h : ∀ x dx, H x = none → H dx = none → dx ≠ x → sp (.ref x :: vs) (upd (upd H dx (.own x)) x (.ins C dx [])) (fun v H2 => v = .non ∧ Q (.ref x) H2) (E σ)) :
    wpAny (model X.prog X.w) X.A (call (.ref C) us) (EP X pins σ Q) X.xe s := by
  have hq := h (s.heap.objs.size + 1) s.heap.objs.size (I.hok.fresh (Nat.le_succ _)) (I.hok.fresh (Nat.le_refl _)) (Nat.ne_of_lt (Nat.lt_succ_self _))
  have I2 := Inv.made (C := C) I
  have r2 : Vals (V.ref (s.heap.objs.size + 1) :: vs) (Value.ref (s.heap.objs.size + 1) :: us) := .cons rfl r
  have hl : ((Value.ref (s.heap.objs.size + 1) :: us) ++ []).length = ps.length := by
    have e := r2.length
    rw [F.len _ _ _ _ hq] at e
    rw [List.append_nil]
    exact e.symm
  have hb' := hb _ (Value.ref (s.heap.objs.size + 1) :: us) I2.kIn hl
  rw [List.append_nil] at hb'
  refine wpAny_call (make_map (f := f) I.kIn M.makes M.init (beq_iff_eq.mp M.fn) (codeAny_mono (F.run _ X.stack _ _ ⟨Value.ref (s.heap.objs.size + 1) :: us, []⟩ (Value.ref (s.heap.objs.size + 1) :: us) _ _ (E σ) (hr.make C us [])
    (I2.env0.make C us []) hb' r2 hq) fun r s' hq' => ?_))
  cases r with
  | error e => exact hx pins _ _ e s' I2 hq'
  | ok fl =>
    cases fl with
    | ret u =>
      obtain ⟨v, H', I3, rv, ev, q3⟩ := I2.after hq'
      subst ev
      exact ⟨rv, ⟨V.ref (s.heap.objs.size + 1), H', I3, rfl, q3⟩⟩
    | next => exact False.elim hq'
    | brk => exact False.elim hq'
    | cont => exact False.elim hq'
theorem pe_makeS (M : Mk X.K C f) (F : FnOk X.prog X.w X.K X.mg X.base CX k f fd ps sp) (hr : Room (k + 1) X.A) (hg : Gl X x) (hm : X.mg x = some (.ref C)) (hb : Binds X.K fd ps []) (hx : ∀ σ, PassesAt CX X σ (E σ))
    (ha : PA X (e :: es) t) (hdb : (x == ("__debug__" : Str)) = false := by decide) (he : starEach (e :: es) X.env = (false, eval e X.env) :: starEach es X.env := by rfl) (hpl : (backTo pos (starEach es X.env)).any (·.1) = false := by rfl) :
    PE X (.Call (.Name x p) (e :: es) [] pos) (tMakeS C sp E t) := by
  refine ⟨fun pins s σ H Q I h => ?_⟩
  refine wpAny_Call_Name_kw (ld_glob I hg hm ?_ hdb)
  refine PySem.W.callWith_K (h₀ := X.base) I.ok.mod.kin M.kp (thn (ha.run pos pins s σ H _ I h) fun us s1 ⟨vs, H1, I1, r, q⟩ => ⟨I1.kIn, ?_⟩) he hpl
  exact run_makeS M F hr hb (hx σ) I1 r q
def tMethS (C : Addr) (m : Str) (sp : Sp) (E : L2.St → XK) (ta : TE) (t : TA) : TE := fun σ H Q => ta σ H fun x H1 => ∃ a dx fs, x = .ref a ∧ H1 a = some (.ins C dx fs) ∧ fs.lookup m = none ∧
  t σ H1 fun vs H2 => sp (x :: vs) H2 Q (E σ)
theorem pe_methS {pl : Sem Bool} (he : PE X o ta) (c : Cls X.K C) (hm : Meth X.K C m f) (F : FnOk X.prog X.w X.K X.mg X.base CX k f fd ps sp) (hr : Room k X.A) (hb : Binds X.K fd ps []) (hx : ∀ σ, PassesAt CX X σ (E σ)) (ha : PA X (e :: es) t)
    (hst : starEach (e :: es) X.env = (false, eval e X.env) :: starEach es X.env := by rfl) (hpl : (backTo pos (starEach es X.env)).any (·.1) = false := by rfl)
    (ht : eval (.Call (.Attribute o m apos) (e :: es) [] pos) X.env = (do
      let ov ← eval o X.env
      standAt apos.atName
      let (f, first) ← holding [ov] (getMethod ov m pl)
      callWith pos f first (backTo pos (starEach (e :: es) X.env)) (backToKw pos (keywordEach [] X.env))) := by rfl) :
    PE X (.Call (.Attribute o m apos) (e :: es) [] pos) (tMethS C m sp E ta t) := by
  refine ⟨fun pins s σ H Q I h => ?_⟩
  refine PySem.W.methodCall_KW (pl := pl) (thn (he.run pins s σ H _ I h) fun u s1 ⟨x, H1, I1, rx, a, dx, fs, ex, ea, l, q⟩ => ?_) ht
  subst ex
  obtain rfl : u = Value.ref a := rx
  refine getmeth_ok I1 ea c hm l ?_
  refine PySem.W.callWith_K (first := [.ref a]) (h₀ := X.base) I.ok.mod.kin hm.kp (thn (ha.run pos pins s1 σ H1 _ I1 q) fun us s2 ⟨vs, H2, I2, r, q2⟩ => ⟨I2.kIn, ?_⟩) hst hpl
  exact run_fnS (us := .ref a :: us) (vs := .ref a :: vs) F hr hb (hx σ) I2 (.cons rfl r) q2
theorem pe_methS0 {pl : Sem Bool} (he : PE X o ta) (c : Cls X.K C) (hm : Meth X.K C m f) (F : FnOk X.prog X.w X.K X.mg X.base CX k f fd ps sp) (hr : Room k X.A) (hb : Binds X.K fd ps []) (hx : ∀ σ, PassesAt CX X σ (E σ))
    (ht : eval (.Call (.Attribute o m apos) [] [] pos) X.env = (do
      let ov ← eval o X.env
      standAt apos.atName
      let (f, first) ← holding [ov] (getMethod ov m pl)
      callWith pos f first (backTo pos (starEach [] X.env)) (backToKw pos (keywordEach [] X.env))) := by rfl) :
    PE X (.Call (.Attribute o m apos) [] [] pos) (tMethS C m sp E ta tNil) := by
  refine ⟨fun pins s σ H Q I h => ?_⟩
  refine PySem.W.methodCall_KW (pl := pl) (thn (he.run pins s σ H _ I h) fun u s1 ⟨x, H1, I1, rx, a, dx, fs, ex, ea, l, q⟩ => ?_) ht
  subst ex
  obtain rfl : u = Value.ref a := rx
  refine getmeth_ok I1 ea c hm l ?_
  exact PySem.W.callWith_K0 (first := [.ref a]) I1.kIn hm.kp (run_fnS (us := [.ref a]) (vs := [.ref a]) F hr hb (hx σ) I1 (.cons rfl .nil) q)
end
structure CalI (P : Program) (w : World) (K : PySem.W.Frag) (mg : Str → Option Value) (base : Heap) (b : Bg) (k : Nat) (n : Str) (ps : List Str) (S : SI) where
  f : Addr
  fd : FuncData
  F : FnOk P w K mg base (L2.CX P w) k f fd ps (spI b n S)
  M : Mk K (b.cls n) f
  g : mg n = some (.ref (b.cls n))
  bd : Binds K fd ps []
structure CalM (P : Program) (w : World) (K : PySem.W.Frag) (mg : Str → Option Value) (base : Heap) (b : Bg) (k : Nat) (n m : Str) (ps : List Str) (S : SV) where
  f : Addr
  fd : FuncData
  F : FnOk P w K mg base (L2.CX P w) k f fd ps (spV b S)
  c : Cls K (b.cls n)
  m : Meth K (b.cls n) m f
  bd : Binds K fd ps []
@[simp] def vMake (n : Str) (S : SI) (u : VA) : VT := fun ρ Q E => u ρ (fun ds => S ds (fun fs => ∀ a, Q (.obj a n fs)) E) E
@[simp] def vMeth (n m : Str) (S : SV) (t : VT) (u : VA) : VT := fun ρ Q E => t ρ (fun d => ∃ a fs, d = .obj a n fs ∧ fs.lookup m = none ∧ u ρ (fun ds => S (d :: ds) Q E) E) E
section
variable {X : Cx} {b : Bg} {W : WX} {k j : Nat} {n m : Str} {ps : List Str} {S : SV} {SJ : SI} {e o : Expr} {es : List Expr} {u : VA} {t : VT} {p pos apos : Pos}
theorem vn_make (c : CalI X.prog X.w X.K X.mg X.base b k n ps SJ) (hr : Room j X.A) (tk : Takes X W) (hg : Gl X n) (ha : VAs X b W (e :: es) u) (hk : k + 1 ≤ j := by decide) (hdb : (n == ("__debug__" : Str)) = false := by decide)
    (he : starEach (e :: es) X.env = (false, eval e X.env) :: starEach es X.env := by rfl) (hpl : (backTo pos (starEach es X.env)).any (·.1) = false := by rfl) : VN X b W (.Call (.Name n p) (e :: es) [] pos) (vMake n SJ u) := by
  refine pe_mono (pe_makeS c.M c.F (hr.mono hk) hg c.g c.bd (passAt tk) ha hdb he hpl) ?_
  exact fun σ H Q ⟨Zo, Z, ρ, Qd, Ed, v, q, l, mm⟩ => ⟨Zo, Z, ρ, _, Ed, v, q, fun vs H1 ds x1 g1 r1 q1 x dx hx hdx hne => by
    have v1 := v.ex x1 g1
    generalize hH2 : upd (upd H1 dx (.own x)) x (.ins (b.cls n) dx []) = H2
    have at_ : ∀ c, c ≠ x → c ≠ dx → H2 c = H1 c := fun c c1 c2 => by rw [← hH2, upd_ne c1, upd_ne c2]
    have x2 : Ex b H1 H2 := fun c o hc _ => by
      rw [at_ c (fun z => by rw [z, hx] at hc; cases hc) (fun z => by rw [z, hdx] at hc; cases hc)]
      exact hc
    have g2 : b.G H2 := b.loc H1 H2 (fun c hc => at_ c (fun z => b.dom H1 c g1 hc (by rw [z]; exact hx)) (fun z => b.dom H1 c g1 hc (by rw [z]; exact hdx))) (fun c o _ e => by rw [at_ c (fun z => by rw [z, hx] at e; cases e) (fun z => by rw [z, hdx] at e; cases e)]; exact e) g1
    have v2 := v1.ex x2 g2
    have h2x : H2 x = some (.ins (b.cls n) dx []) := by rw [← hH2]; exact upd_same
    have nzx : ¬ Z x := v1.fresh hx
    have n0 : H x = none := by
      cases q : H x with
      | none => rfl
      | some o =>
        by_cases hb : b.B x
        · exact absurd hx (b.dom _ _ g1 hb)
        · rw [x1 x o q hb] at hx; cases hx
    have back : ∀ {H'}, (∀ a o, H2 a = some o → ¬ b.B a → a ≠ x → H' a = some o) → Ex b H H' := fun {H'} h a o e nb =>
      h a o (x2 a o (x1 a o e nb) nb) nb (fun q => by rw [q, n0] at e; cases e)
    refine ⟨x, dx, vs, Z, ds, _, Ed, rfl, h2x, v2.gd, nzx, r1.mono (fun c z => z.imp id fun e => by rw [e]; exact hx) (fun c o e nz => ?_), q1, fun H' fs ext g' ow qf => ⟨rfl, l _ H' (.obj x n fs) (back ext) g' ⟨x, rfl, n0, ow⟩ (qf x)⟩, fun c d H' er ext g' re qe => mm c d H' er (back ext) g' re qe⟩
    exact x2 c o e (v1.nb nz), mm⟩
theorem ve_meth {pl : Sem Bool} (c : CalM X.prog X.w X.K X.mg X.base b k n m ps S) (hr : Room j X.A) (tk : Takes X W) (ho : VE X b W o t) (ha : VAs X b W (e :: es) u) (hk : k ≤ j := by decide)
    (hst : starEach (e :: es) X.env = (false, eval e X.env) :: starEach es X.env := by rfl) (hpl : (backTo pos (starEach es X.env)).any (·.1) = false := by rfl)
    (ht : eval (.Call (.Attribute o m apos) (e :: es) [] pos) X.env = (do
      let ov ← eval o X.env
      standAt apos.atName
      let (f, first) ← holding [ov] (getMethod ov m pl)
      callWith pos f first (backTo pos (starEach (e :: es) X.env)) (backToKw pos (keywordEach [] X.env))) := by rfl) : VE X b W (.Call (.Attribute o m apos) (e :: es) [] pos) (vMeth n m S t u) := by
  refine pe_mono (pe_methS (pl := pl) ho c.c c.m c.F (hr.mono hk) c.bd (passAt tk) ha hst hpl ht) ?_
  exact fun σ H Q ⟨Zo, Z, ρ, Qd, Ed, v, q, l, mm⟩ => ⟨Zo, Z, ρ, _, Ed, v, q, fun x H1 d x1 g1 r1 ⟨a, fs, ed, hf, q1⟩ => by
    subst ed
    have v1 := v.ex x1 g1
    obtain ⟨dx, xs, ex, hH, nz, rq⟩ := id r1
    exact ⟨a, dx, xs, ex, hH, rq.none hf, Zo, Z, ρ, _, Ed, v1, q1, fun vs H2 ds x2 g2 r2 q2 => by
      have v2 := v1.ex x2 g2
      exact ⟨Z, .obj a n fs :: ds, Qd, Ed, v2.gd, .cons (v1.rp x2 r1) r2, q2, fun y H3 d x3 g3 r3 q3 => l y H3 d ((x1.trans x2).trans x3) g3 r3 q3, fun c z H3 er x3 g3 r3 q3 => mm c z H3 er ((x1.trans x2).trans x3) g3 r3 q3⟩, fun c z H2 er x2 g2 r2 q2 => mm c z H2 er (x1.trans x2) g2 r2 q2⟩, mm⟩
theorem ve_meth0 {pl : Sem Bool} (c : CalM X.prog X.w X.K X.mg X.base b k n m ps S) (hr : Room j X.A) (tk : Takes X W) (ho : VE X b W o t) (hk : k ≤ j := by decide)
    (ht : eval (.Call (.Attribute o m apos) [] [] pos) X.env = (do
      let ov ← eval o X.env
      standAt apos.atName
      let (f, first) ← holding [ov] (getMethod ov m pl)
      callWith pos f first (backTo pos (starEach [] X.env)) (backToKw pos (keywordEach [] X.env))) := by rfl) : VE X b W (.Call (.Attribute o m apos) [] [] pos) (vMeth n m S t vNil) := by
  refine pe_mono (pe_methS0 (pl := pl) ho c.c c.m c.F (hr.mono hk) c.bd (passAt tk) ht) ?_
  exact fun σ H Q ⟨Zo, Z, ρ, Qd, Ed, v, q, l, mm⟩ => ⟨Zo, Z, ρ, _, Ed, v, q, fun x H1 d x1 g1 r1 ⟨a, fs, ed, hf, q1⟩ => by
    subst ed
    have v1 := v.ex x1 g1
    obtain ⟨dx, xs, ex, hH, nz, rq⟩ := id r1
    exact ⟨a, dx, xs, ex, hH, rq.none hf, Z, [.obj a n fs], Qd, Ed, v1.gd, .cons r1 .nil, q1, fun y H3 d x3 g3 r3 q3 => l y H3 d (x1.trans x3) g3 r3 q3, fun c z H3 er x3 g3 r3 q3 => mm c z H3 er (x1.trans x3) g3 r3 q3⟩, mm⟩
end
/-! ### the class's facts, for the join -/
structure ClsB (K : PySem.W.Frag) (C : Addr) (n qual : Str) (st : Stmt) : Prop where
  ns : PySem.W.nsIn K mainGlobals n = some (some (.ref C))
  c : Cls K C
  ini : ∃ (fI : Addr) (fd : FuncData), Fun K "__init__" qual st fI fd ∧ Mk K C fI
structure ClsK (K : PySem.W.Frag) (n qual : Str) (st : Stmt) : Prop where
  ex : ∃ C : Addr, ClsB K C n qual st
theorem clsK {K : PySem.W.Frag} {C fI : Addr} {n qual : Str} {st : Stmt} {oc kV doc pm cdv ct : Value} {od an : Option Addr} {osl : Array (Option Value)} (a1 : PySem.W.nsIn K mainGlobals n = some (some (.ref C)))
    (a2 : PySem.W.plainGet K C Str.empty = true) (a3 : PySem.W.hasDictIn K C = true) (a4 : PySem.W.plainOver K C = true) (a5 : PySem.W.findIn K (.ref C) "__setattr__" = some (some (.builtin "object.__setattr__")))
    (m1 : PySem.W.makesIn K C = true) (m2 : PySem.W.findIn K (.ref C) "__init__" = some (some (.ref fI))) (m3 : PySem.W.isFn K (.ref fI) = true) (m4 : PySem.W.keepIn K (.ref C) = true)
    (d3 : K.lookup fI = some ⟨oc, od, .func (PySem.W.fnOf "__init__" qual (defArgs st) (defBody st) (defScope st) .none kV doc pm an cdv ct), osl⟩) (d4 : PySem.W.codeIn K cdv qual = true) (d5 : PySem.W.keepIn K (.ref fI) = true) : ClsK K n qual st :=
  ⟨C, a1, ⟨a2, a3, a4, a5⟩, fI, _, fun_mk d3 d4 d5, m1, m2, m3, m4⟩
/-- the class n has no attribute f -/
structure NoAtK (K : PySem.W.Frag) (n f : Str) : Prop where
  ex : ∃ C : Addr, PySem.W.nsIn K mainGlobals n = some (some (.ref C)) ∧ NoAttr K C f
theorem noAtK {K : PySem.W.Frag} {C : Addr} {n f : Str} (a1 : PySem.W.nsIn K mainGlobals n = some (some (.ref C))) (a2 : PySem.W.findIn K (.ref C) f = some none) : NoAtK K n f := ⟨C, a1, a2⟩
theorem NoAtK.at {K : PySem.W.Frag} {C : Addr} {n f : Str} (a : NoAtK K n f) (h : PySem.W.nsIn K mainGlobals n = some (some (.ref C))) : NoAttr K C f := by
  obtain ⟨D, h1, h2⟩ := a.ex
  have : D = C := by
    have := h1.symm.trans h
    injection this with this; injection this with this; injection this
  subst this
  exact h2
/-- the class n has the method m -/
structure MethK (K : PySem.W.Frag) (n m qual : Str) (st : Stmt) : Prop where
  ex : ∃ C : Addr, PySem.W.nsIn K mainGlobals n = some (some (.ref C)) ∧ ∃ (fI : Addr) (fd : FuncData), Fun K m qual st fI fd ∧ Meth K C m fI
theorem methK {K : PySem.W.Frag} {C fI : Addr} {n m qual : Str} {st : Stmt} {oc kV doc pm cdv ct : Value} {od an : Option Addr} {osl : Array (Option Value)} (a1 : PySem.W.nsIn K mainGlobals n = some (some (.ref C)))
    (m2 : PySem.W.findIn K (.ref C) m = some (some (.ref fI))) (m3 : PySem.W.isFn K (.ref fI) = true)
    (d3 : K.lookup fI = some ⟨oc, od, .func (PySem.W.fnOf m qual (defArgs st) (defBody st) (defScope st) .none kV doc pm an cdv ct), osl⟩) (d4 : PySem.W.codeIn K cdv qual = true) (d5 : PySem.W.keepIn K (.ref fI) = true) : MethK K n m qual st :=
  ⟨C, a1, fI, _, fun_mk d3 d4 d5, m2, m3, d5⟩
theorem MethK.at {K : PySem.W.Frag} {C : Addr} {n m qual : Str} {st : Stmt} (a : MethK K n m qual st) (h : PySem.W.nsIn K mainGlobals n = some (some (.ref C))) : ∃ (fI : Addr) (fd : FuncData), Fun K m qual st fI fd ∧ Meth K C m fI := by
  obtain ⟨D, h1, h2⟩ := a.ex
  have : D = C := by
    have := h1.symm.trans h
    injection this with this; injection this with this; injection this
  subst this
  exact h2
end VL
set_option Elab.async false
set_option linter.all false
set_option maxRecDepth 100000
set_option maxHeartbeats 4000000
/-! VL73: a, b, .. = a list -/
namespace VL
open PySem PySem.Spec PyProof.Rows L2
section
variable {X : Cx} {b : Bg} {pos : Pos}
@[simp] def tgUnl (n : Nat) (u : VTgs) : VTg
  | .py (.list ps), ρ, Q => ps.length = n ∧ u (ps.map D.py) ρ Q
  | _, _, _ => False
theorem tgUnl_ex {n : Nat} {u : VTgs} : ∀ {d : D} {ρ : VEnv} {Q : VEnv → Prop}, tgUnl n u d ρ Q → ∃ ps, d = .py (.list ps) ∧ ps.length = n ∧ u (ps.map D.py) ρ Q
  | .py (.list ps), _, _, h => ⟨ps, rfl, h⟩
theorem vg_unl {tgs : List Expr} {k n : Nat} {js : List Nat} {u : VTgs} (hc : X.calm = true) (h : VGs X b tgs js u) (hn : (assignEach tgs X.env).length = n := by rfl) (hst : (assignEach tgs X.env).findIdx? (·.1) = none := by rfl) : VG X b (.Tuple tgs k pos) js (tgUnl n u) :=
  pg_mono (pg_unl hc h hn hst) fun v σ H Q ⟨H0, M, Zo, Z, ρ, d, Qd, f, r, hh, k⟩ => by
    obtain ⟨ps, e, hl, q⟩ := tgUnl_ex hh
    subst e
    obtain ⟨a, xs, rfl, ha, qa⟩ := Rb.list (b := b) (.inl r)
    exact ⟨a, xs, rfl, SqL.of ha, by rw [qa.length]; exact hl, H0, M, Zo, Z, ρ, _, Qd, f, qa.to, q, k⟩
end
end VL
set_option Elab.async false
set_option linter.all false
set_option maxRecDepth 100000
set_option maxHeartbeats 4000000
/-! VL74: a dict beside a text -/
namespace PySem
open PySem.Spec PyProof.Rows PySem.SeqAt
open Sem (wp)
end PySem
namespace VL
open PySem PySem.Spec PyProof.Rows L2
section
variable {X : Cx} {b : Bg} {W : WX} {e1 e2 : Expr} {t1 t2 : VT} {pos : Pos}
/-- .. a text on the right; a dict is no text -/
@[simp] def gEqT : D → D → (D → Prop) → Prop
  | .py (.dict _), .py (.str _), Q => Q (.py (.bool false))
  | x, y, Q => gEq x y Q
@[simp] def gNeT : D → D → (D → Prop) → Prop
  | .py (.dict _), .py (.str _), Q => Q (.py (.bool true))
  | x, y, Q => gNe x y Q
end
end VL
set_option Elab.async false
set_option linter.all false
set_option maxRecDepth 100000
set_option maxHeartbeats 4000000
/-! VL75: the cells: a list of a list (that stands still) and two numbers -/
namespace VL
open PySem PySem.Spec PyProof.Rows L2
section
variable {X : Cx} {e : Expr} {t : TE}
end
end VL
set_option Elab.async false
set_option linter.all false
set_option maxRecDepth 100000
set_option maxHeartbeats 4000000
/-! VL76: sorted of a list of texts, any number of them -/
namespace VL
open PySem PySem.Spec PyProof.Rows L2
/-- the order of texts -/
def ltT (a b : Str) : Bool := ltCps a.cps.toList b.cps.toList
def sortSt (L : List Str) : List Str := L.mergeSort fun a b => !ltT b a
section
variable {X : Cx}
end
@[simp] def gSortedS : List D → (D → Prop) → Prop
  | [.py (.list xs)], Q => ∃ L : List Str, xs = L.map PyData.str ∧ Q (.py (.list ((sortSt L).map PyData.str)))
  | _, _ => False
section
variable {X : Cx} {b : Bg} {W : WX} {e : Expr} {es : List Expr} {u : VA} {p pos : Pos}
end
end VL
set_option Elab.async false
set_option linter.all false
set_option maxRecDepth 100000
set_option maxHeartbeats 4000000
/-! VL77: len(set(l)), l a list of ints -/
namespace VL
open PySem PySem.Spec PyProof.Rows L2
section
variable {X : Cx}
end
@[simp] def vLenSetL (t : VT) : VT := fun ρ Q E => t ρ (fun d => ∃ xs ns, d = .py (.list xs) ∧ allI xs = some ns ∧ ns.length < 4095 ∧ ∀ ks : List Int, ks.Nodup → (∀ j, j ∈ ks ↔ j ∈ ns) → Q (.py (.int (ks.length : Nat)))) E
end VL
set_option Elab.async false
set_option linter.all false
set_option maxRecDepth 100000
set_option maxHeartbeats 4000000
/-! VL78: list(zip(a, b)), tuple(zip(a, b)) of two lists or of two tuples -/
namespace VL
open PySem PySem.Spec PyProof.Rows L2
section
variable {prog : Program} {w : World} {A : Around} {E : Value → Shared → Prop} {s : Shared}
end
/-! ### the walk to its end -/
section
variable {prog : Program} {w : World} {A : Around} {E : Value → Shared → Prop} {s : Shared}
end
section
variable {prog : Program} {w : World} {A : Around} {s : Shared} {R : Result → Shared → Prop}
end
section
variable {prog : Program} {w : World} {A : Around} {E : Value → Shared → Prop} {s : Shared} {R : Result → Shared → Prop}
end
end VL
set_option Elab.async false
set_option linter.all false
set_option maxRecDepth 100000
set_option maxHeartbeats 4000000
/-! VL79: list(zip(a, b)) over values -/
namespace VL
open PySem PySem.Spec PyProof.Rows L2
section
variable {X : Cx}
end
/-! ### over values -/
@[simp] def gLstZ : List D → (D → Prop) → Prop
  | [.py (.list xs), .py (.list ys)], Q => xs.length = ys.length ∧ Q (.py (.list (zip2P xs ys)))
  | [.py (.tuple xs), .py (.tuple ys)], Q => xs.length = ys.length ∧ Q (.py (.list (zip2P xs ys)))
  | _, _ => False
end VL
set_option Elab.async false
set_option linter.all false
set_option maxRecDepth 100000
set_option maxHeartbeats 4000000
/-! VL80: a comprehension over a dict that stands still meanwhile -/
namespace VL
open PySem PySem.Spec PyProof.Rows L2
end VL
set_option Elab.async false
set_option linter.all false
set_option maxRecDepth 100000
set_option maxHeartbeats 4000000
/-! VL81: [.. for k, v in d.items()], [.. for k in d], d a shared dict of plain values -/
namespace VL
open PySem PySem.Spec PyProof.Rows L2
@[simp] def leafB : PyData → Bool
  | .list _ => false
  | .tuple _ => false
  | .dict _ => false
  | _ => true
/-- a dict that is locked -/
def dF (ds : List (PyData × PyData)) : Abs where
  R := fun Z H a => ∃ o kvs, H a = some (.frz o (.dK kvs)) ∧ Rqk Z H kvs ds ∧ ∀ p ∈ ds, leafB p.2 = true
  at_ := fun ⟨o, kvs, h, _⟩ => ⟨_, h⟩
  noext := fun ⟨o, kvs, h, _⟩ u hu e => by rw [h] at e; cases e; exact hu
  mono := fun hz hs ha ⟨o, kvs, h, r, l⟩ => ⟨o, kvs, ha _ h, r.mono hz hs, l⟩
def itemsP (ds : List (PyData × PyData)) : List PyData := ds.map fun p => .tuple [p.1, p.2]
@[simp] def iIt (j : Nat) : VIt := fun ρ Q _ => ∃ ds, ρ[j]? = some (.shr (.abs (dF ds))) ∧ Q ((itemsP ds).map D.py)
@[simp] def iKy (j : Nat) : VIt := fun ρ Q _ => ∃ ds, ρ[j]? = some (.shr (.abs (dF ds))) ∧ Q ((ds.map fun p => p.1).map D.py)
section
variable {b : Bg} {Y Z : Addr → Prop} {H : Hp} {d : Addr} {o : Obj} {kvs : List (Key × V)} {ds : List (PyData × PyData)}
end
section
variable {X : Cx} {b : Bg} {W : WX} {e f : Expr} {j : Nat} {ty : VT} {ap cp tp pos : Pos} {tgs : List Expr} {n0 : Nat} {tg : Expr}
/-- d[k] of the locked dict -/
@[simp] def vDIxF (j : Nat) (ty : VT) : VT := fun ρ Q E => ∃ ds, ρ[j]? = some (.shr (.abs (dF ds))) ∧ ty ρ (fun y => ∃ k kk x, y = .py k ∧ keyOf k = some kk ∧ getD ds kk = some x ∧ Q (.py x)) E
end
end VL
set_option Elab.async false
set_option linter.all false
set_option maxRecDepth 100000
set_option maxHeartbeats 4000000
/-! VL82: a dict is locked while an expression that makes something new is evaluated -/
namespace VL
open PySem PySem.Spec PyProof.Rows L2
@[simp] def flatS : Slot → Slot
  | .shr (.py p) => if leafB p = true then .shr (.py p) else .un
  | .shr (.raw v) => .shr (.raw v)
  | _ => .un
@[simp] def flatE (ds : List (PyData × PyData)) : Nat → VEnv → VEnv
  | _, [] => []
  | 0, _ :: r => .shr (.abs (dF ds)) :: r.map flatS
  | j + 1, s :: r => flatS s :: flatE ds j r
section
variable {Z : Addr → Prop} {H : Hp} {d : Addr} {od : Obj} {kvs : List (Key × V)} {u : HO}
end
@[simp] def vLock (j : Nat) (t : VT) : VT := fun ρ Q _ => ∃ ds, ρ[j]? = some (.shr (.py (.dict ds))) ∧ (∀ p ∈ ds, leafB p.2 = true) ∧ t (flatE ds j ρ) (fun d => (∃ xs, d = .py (.list xs)) ∧ Q d) noE
end VL
set_option Elab.async false
set_option linter.all false
set_option maxRecDepth 100000
set_option maxHeartbeats 4000000
/-! VL83: two fields set from a pair; a dict of one number; a range that counts down -/
namespace VL
open PySem PySem.Spec PyProof.Rows L2
section
variable {X : Cx} {b : Bg} {W : WX} {e o o2 : Expr} {n f1 f2 : Str} {t : VT} {pos : Pos} {i : Nat}
@[simp] def sFld2 (i : Nat) (n f1 f2 : Str) (t : VT) : VS := fun ρ De => t ρ (fun d => ∃ p1 p2 a fs, d = .py (.tuple [p1, p2]) ∧ ρ[i]? = some (.own (.obj a n fs)) ∧ fs.length + 1 < 1000 ∧ De.nx (ρ.set i (.own (.obj a n (putFD f2 p2 (putFD f1 p1 fs)))))) (De.ex ρ)
end
/-! ### a dict of one number -/
@[simp] def vDI (t : VT) (j : Int) : VT := fun ρ Q E => t ρ (fun d => ∃ i, d = .py (.int i) ∧ Q (.py (.dict [(.int i, .int j)]))) E
/-! ### range(i, j, -1) -/
def rangeD (i : Int) (n : Nat) : List PyData := (List.range n).map fun (k : Nat) => PyData.int (i - k)
@[simp] def asR3 : List D → (List D → Prop) → Prop
  | [.py (.int i), .py (.int j), .py (.int k)], Q => k = -1 ∧ (small62 i ∧ small62 j) ∧ Q ((rangeD i (i - j).toNat).map D.py)
  | _, _ => False
@[simp] def iR3 (t : VA) : VIt := fun ρ Q E => t ρ (fun d => asR3 d Q) E
section
variable {X : Cx} {b : Bg} {W : WX} {tg e1 e2 e3 : Expr} {ta : VA} {p pos : Pos} {Y Z : Addr → Prop} {H : Hp}
end
end VL
set_option Elab.async false
set_option linter.all false
set_option maxRecDepth 100000
set_option maxHeartbeats 4000000
/-! VL84: list(d.values()) -/
namespace VL
open PySem PySem.Spec PyProof.Rows L2
@[simp] def gVals : D → (D → Prop) → Prop
  | .py (.dict ds), Q => Q (.py (.list (ds.map (·.2))))
  | _, _ => False
end VL
set_option Elab.async false
set_option linter.all false
set_option maxRecDepth 100000
set_option maxHeartbeats 4000000
/-! VL85: sorted(d.items()), numbers for keys and values -/
namespace VL
open PySem PySem.Spec PyProof.Rows L2
section
variable {prog : Program} {w : World} {A : Around} {s : Shared} {E : Value → Shared → Prop}
def prV (p : Int × Int) : List Int := [p.1, p.2]
end
section
variable {X : Cx}
end
/-! ### over values -/
@[simp] def gSrtIt : D → (D → Prop) → Prop
  | .py (.dict ds), Q => ∃ L : List (Int × Int), ds = L.map (fun p => (PyData.int p.1, PyData.int p.2)) ∧ L ≠ [] ∧ Q (.py (.list ((sortT (L.map prV)).map fun l => PyData.tuple (l.map PyData.int))))
  | _, _ => False
end VL
set_option Elab.async false
set_option linter.all false
set_option maxRecDepth 100000
set_option maxHeartbeats 4000000
/-! VL86: list(d.items()), numbers for keys and values -/
namespace VL
open PySem PySem.Spec PyProof.Rows L2
section
variable {X : Cx}
end
@[simp] def gLstIt : D → (D → Prop) → Prop
  | .py (.dict ds), Q => ∃ L : List (Int × Int), ds = L.map (fun p => (PyData.int p.1, PyData.int p.2)) ∧ Q (.py (.list ((L.map prV).map fun l => PyData.tuple (l.map PyData.int))))
  | _, _ => False
end VL
set_option Elab.async false
set_option linter.all false
set_option maxRecDepth 100000
set_option maxHeartbeats 4000000
/-! VL87: sorted(set(xs)), xs a list of allI0 -/
namespace VL
open PySem PySem.Spec PyProof.Rows L2
section
variable {P : Program} {w : World} {A : Around} {E : Value → Shared → Prop} {s : Shared}
end
section
variable {X : Cx}
end
@[simp] def vSortSetL (t : VT) : VT := fun ρ Q E => t ρ (fun d => ∃ xs ns, d = .py (.list xs) ∧ allI xs = some ns ∧ ns.length < 63 ∧ ∀ ks : List Int, ks.Pairwise (· < ·) → (∀ j, j ∈ ks ↔ j ∈ ns) → Q (.py (.list (ks.map PyData.int)))) E
end VL
set_option Elab.async false
set_option linter.all false
set_option maxRecDepth 100000
set_option maxHeartbeats 4000000
/-! VL88: x in d, x not in d, d a dict -/
namespace VL
open PySem PySem.Spec PyProof.Rows L2
section
variable {X : Cx} {b : Bg} {W : WX} {e1 e2 : Expr} {t1 t2 : VT} {pos : Pos}
@[simp] def gInDk (neg : Bool) : D → D → (D → Prop) → Prop
  | .py k, .py (.dict ds), Q => ∃ kk, VL.keyOf k = some kk ∧ Q (.py (.bool (neg ^^ (getD ds kk).isSome)))
  | _, _, _ => False
end
end VL
set_option Elab.async false
set_option linter.all false
set_option maxRecDepth 100000
set_option maxHeartbeats 4000000
/-! VL89: a def under another global name -/
namespace VL
open PySem PySem.Spec PyProof.Rows L2
end VL
set_option Elab.async false
set_option linter.all false
set_option maxRecDepth 100000
set_option maxHeartbeats 4000000
/-! VL90: zip of any number of tuples of one length, at the machine's level -/
namespace VL
open PySem PySem.Spec PyProof.Rows L2
section
variable {M : Model} {A : Around} {E : Value → Shared → Prop}
end
section
variable {prog : Program} {w : World} {A : Around} {E : Value → Shared → Prop} {s : Shared} {z TI TO : Addr} {its ls : List Addr} {cols : List (List Value)} {k : Nat}
end
end VL
set_option Elab.async false
set_option linter.all false
set_option maxRecDepth 100000
set_option maxHeartbeats 4000000
/-! VL91: zip(e, *e2) as what a comprehension walks -/
namespace VL
open PySem PySem.Spec PyProof.Rows L2
section
variable {prog : Program} {w : World} {A : Around} {E : Value → Shared → Prop} {s : Shared} {ls : List Addr} {cols : List (List Value)}
end
end VL
set_option Elab.async false
set_option linter.all false
set_option maxRecDepth 100000
set_option maxHeartbeats 4000000
/-! VL92: for x in zip(e, *e2), the sources being tuples of one length -/
namespace VL
open PySem PySem.Spec PyProof.Rows L2 StX
section
variable {X : Cx} {b : Bg} {W : WX} {e : Expr} {es : List Expr} {x : Str} {p q pos : Pos}
/-! ### over data -/
def zipNP (m : Nat) (cols : List (List PyData)) : List PyData := (List.range m).map fun i => .tuple (cols.map fun c => c.getD i .none)
@[simp] def asZN (ds : List D) (Q : List D → Prop) : Prop := ∃ (cols : List (List PyData)) (m : Nat), ds = cols.map (fun c => D.py (.tuple c)) ∧ 1 ≤ cols.length ∧ cols.length ≤ 6 ∧ (∀ c ∈ cols, c.length = m) ∧ Q ((zipNP m cols).map D.py)
@[simp] def iZN (t : VA) : VIt := fun ρ Q E => t ρ (fun d => asZN d Q) E
end
end VL
set_option Elab.async false
set_option linter.all false
set_option maxRecDepth 100000
set_option maxHeartbeats 4000000
/-! VL93: list(zip(a, b, c)) of up to six tuples of one length -/
namespace VL
open PySem PySem.Spec PyProof.Rows L2
section
variable {prog : Program} {w : World} {A : Around} {s : Shared} {R : Result → Shared → Prop}
end
section
variable {prog : Program} {w : World} {A : Around} {E : Value → Shared → Prop} {s : Shared} {R : Result → Shared → Prop}
end
section
variable {X : Cx}
end
/-! ### over values -/
@[simp] def gLstZN (ds : List D) (Q : D → Prop) : Prop := ∃ (cols : List (List PyData)) (m : Nat), ds = cols.map (fun c => D.py (.tuple c)) ∧ 1 ≤ cols.length ∧ cols.length ≤ 6 ∧ (∀ c ∈ cols, c.length = m) ∧ Q (.py (.list (zipNP m cols)))
end VL
set_option Elab.async false
set_option linter.all false
set_option maxRecDepth 100000
set_option maxHeartbeats 4000000
/-! VL94: min, max of two texts; a <= b <= c <= d of texts -/
namespace VL
open PySem PySem.Spec PySem.Calls PyProof.Rows L2
section
variable {X : Cx}
end
@[simp] def gMaxS : List D → (D → Prop) → Prop
  | [.py (.str i), .py (.str j)], Q => Q (.py (.str (if ltT i j then j else i)))
  | _, _ => False
@[simp] def gMinS : List D → (D → Prop) → Prop
  | [.py (.str i), .py (.str j)], Q => Q (.py (.str (if ltT j i then j else i)))
  | _, _ => False
@[simp] def gLeSt : D → D → (D → Prop) → Prop
  | .py (.str i), .py (.str j), Q => Q (.py (.bool (!ltT j i)))
  | _, _, _ => False
section
variable {b : Bg}
end
/-! ### chains of three comparisons -/
section
variable {X : Cx} {a b c d : Expr} {ta tb tc td : TE} {pos : Pos}
end
@[simp] def vChain3 (g g' g'' : D → D → (D → Prop) → Prop) (ta tb tc td : VT) : VT := fun ρ Q E => ta ρ (fun x => tb ρ (fun y => g x y fun z => ∃ k, z = .py (.bool k) ∧ if k = true then tc ρ (fun w => g' y w fun z => ∃ k, z = .py (.bool k) ∧ if k = true then td ρ (fun v => g'' w v Q) E else Q (.py (.bool false))) E else Q (.py (.bool false))) E) E
section
variable {X : Cx} {b : Bg} {W : WX} {e e1 e2 e3 e4 : Expr} {t1 t2 t3 t4 : VT} {es : List Expr} {u : VA} {p pos : Pos} {r r' r'' : R2} {g g' g'' : D → D → (D → Prop) → Prop}
end
end VL
set_option Elab.async false
set_option linter.all false
set_option maxRecDepth 100000
set_option maxHeartbeats 4000000
/-! VL95: sorted(set(t)), t a tuple of texts, all unlike -/
namespace VL
open PySem PySem.Spec PyProof.Rows L2 PySem.Froz
section
variable {P : Program} {w : World} {A : Around} {E : Value → Shared → Prop} {s : Shared}
end
end VL
set_option Elab.async false
set_option linter.all false
set_option maxRecDepth 100000
set_option maxHeartbeats 4000000
/-! VL96: sorted(set(t)), t a tuple of texts, over values -/
namespace VL
open PySem PySem.Spec PyProof.Rows L2 PySem.Froz
section
variable {X : Cx}
end
@[simp] def vSortSetX (t : VT) : VT := fun ρ Q E => t ρ (fun d => ∃ ns : List Str, d = .py (.tuple (ns.map PyData.str)) ∧ ns.Nodup ∧ ns.length < 4000 ∧ Q (.py (.list ((sortSt ns).map PyData.str)))) E
section
variable {X : Cx} {a b c d : Expr} {ta tb tc td : TE} {pos : Pos}
end
section
variable {X : Cx} {b : Bg} {W : WX} {e1 e2 e3 e4 : Expr} {t1 t2 t3 t4 : VT} {pos : Pos}
end
end VL
set_option Elab.async false
set_option linter.all false
set_option maxRecDepth 100000
set_option maxHeartbeats 4000000
namespace VL
open PySem PySem.Spec PyProof.Rows L2
/-! ### several targets, some of them items of owned lists -/
section
variable {X : Cx} {b : Bg} {W : WX} {e e1 e2 : Expr} {es : List Expr} {st : Stmt} {t t1 t2 : VT} {u : VA} {pos pos' : Pos} {i : Nat} {x : Str}
/-- an item of an owned list -/
@[simp] def tgSto (i : Nat) (ty : VT) : VTg := fun d ρ Q => ∃ xs, ρ[i]? = some (.own (.py (.list xs))) ∧ ∃ p, d = .py p ∧ ty ρ (fun y => ∃ k, y = .py (.int k) ∧ ∃ ys, setAt xs k p = some ys ∧ Q (ρ.set i (.own (.py (.list ys))))) fun _ => False
/-- t1, t2 = e1, e2 by way of a tuple -/
@[simp] def sParM (n : Nat) (u : VA) (g : VTgs) : VS := fun ρ De => u ρ (fun ds => ds.length = n ∧ g ds ρ De.nx) (De.ex ρ)
/-! ### a list, from an item on, with a step -/
def stepL {α : Type} (xs : List α) (lo st : Int) : List α := (sliceRange (sliceBounds (some lo) none (some st) xs.length).1 (sliceBounds (some lo) none (some st) xs.length).2.1 (sliceBounds (some lo) none (some st) xs.length).2.2).filterMap (xs[·]?)
@[simp] def vStp (t : VT) (tl ts : VO) : VT := fun ρ Q E => t ρ (fun x => tl ρ (fun l => ts ρ (fun k => ∃ xs lo st, x = .py (.list xs) ∧ l = some lo ∧ k = some st ∧ st ≠ 0 ∧ Q (.py (.list (stepL xs lo st)))) E) E) E
end
end VL
set_option Elab.async false
set_option linter.all false
set_option maxRecDepth 100000
set_option maxHeartbeats 4000000
/-! VL98: the stairs of demands: two lists in the fields of an object, changed while it is made -/
namespace VL
open PySem PySem.Spec PyProof.Rows L2
/-! the heap while the object is made -/
section
variable {H H' : Hp} {x C dx l1 l2 a1 : Addr} {fs fs' : List (Str × V)} {ls hs : List Int}
end
end VL
set_option Elab.async false
set_option linter.all false
set_option maxRecDepth 100000
set_option maxHeartbeats 4000000
/-! VL99: sorted of a list of any alike data -/
namespace VL
open PySem PySem.Spec PyProof.Rows L2
/-- the data, sorted -/
def sortD (ds : List PyData) : List PyData := ds.mergeSort (PySem.W.dataLe false id)
section
variable {X : Cx}
end
@[simp] def gSortedD : List D → (D → Prop) → Prop
  | [.py (.list xs)], Q => PySem.W.AllAlike xs ∧ PySem.W.Sortable xs ∧ (∀ d ∈ xs, d.depth ≤ 40) ∧ Q (.py (.list (sortD xs)))
  | _, _ => False
section
variable {X : Cx} {b : Bg} {W : WX} {e : Expr} {es : List Expr} {u : VA} {p pos : Pos}
end
end VL
set_option Elab.async false
set_option linter.all false
set_option maxRecDepth 100000
set_option maxHeartbeats 4000000
/-! VL100: tuple(zip(a, b)) -/
namespace VL
open PySem PySem.Spec PyProof.Rows L2
section
variable {prog : Program} {w : World} {A : Around} {E : Value → Shared → Prop} {s : Shared}
end
section
variable {X : Cx}
end
/-! ### over values -/
@[simp] def gTupZ : List D → (D → Prop) → Prop
  | [.py (.list xs), .py (.list ys)], Q => xs.length = ys.length ∧ Q (.py (.tuple (zip2P xs ys)))
  | [.py (.tuple xs), .py (.tuple ys)], Q => xs.length = ys.length ∧ Q (.py (.tuple (zip2P xs ys)))
  | _, _ => False
end VL
set_option Elab.async false
set_option linter.all false
set_option maxRecDepth 100000
set_option maxHeartbeats 4000000
/-! VL101: generators: «if» and «for» in a body that yields -/
namespace VL
open PySem PySem.Spec PyProof.Rows L2 GenW
section
variable {M : Model} {A : Around} {R : GenEnd} {Y : Protocol} {n : Nat} {s0 : Shared} {c : Code} {fs : List Frame} {s : Shared} {env : Env} {K : Flow → Sem PySem.Fin} {J : Value → Sem PySem.Fin} {gd : Bool → Bool} {lv : List Value → List Value}
end
section
variable {prog : Program} {w : World} {A : Around} {R : GenEnd} {Y : Protocol} {n : Nat} {s0 : Shared} {fs : List Frame} {s : Shared} {env : Env}
/-- the end of a turn's body -/
abbrev turns (c' : Code) (f : Flow) : Sem PySem.Fin := match f with
  | .next | .cont => .pure (.again c')
  | .brk => .pure (.done .next)
  | .ret v => .pure (.done (.ret v))
end
section
variable {X : Cx}
/-! ### «if» and «for» that hand out -/
end
end VL
set_option Elab.async false
set_option linter.all false
set_option maxRecDepth 100000
set_option maxHeartbeats 4000000
/-! VL102: readings of a generator's body: the list is what has been handed out -/
namespace VL
open PySem PySem.Spec PyProof.Rows L2 GenW
/-- what is wanted behind a statement: the names' values and what is out -/
structure GEn where
  nx : VEnv → List PyData → Prop
  bk : VEnv → List PyData → Prop
  ct : VEnv → List PyData → Prop
  ex : VEnv → Er → Prop
abbrev VY := VEnv → List PyData → GEn → Prop
section
variable {b : Bg} {W : WX} {H0 : Hp} {M Zo Z Z' : Addr → Prop} {σ σ' : L2.St} {H H' : Hp} {ρ ρ' : VEnv} {De : GEn} {Dn : GEnds} {ys : List V} {out : List PyData}
end
section
variable {X : Cx} {b : Bg} {W : WX} {st : Stmt} {rest xs zs body : List Stmt} {t : VS} {g u : VY} {pos yp : Pos}
/-- a statement that hands out nothing -/
@[simp] def yP (t : VS) : VY := fun ρ out De => t ρ { nx := fun ρ' => De.nx ρ' out, rt := fun _ => False, bk := fun ρ' => De.bk ρ' out, ct := fun ρ' => De.ct ρ' out, ex := De.ex }
@[simp] def yNil : VY := fun ρ out De => De.nx ρ out
@[simp] def yThen (g u : VY) : VY := fun ρ out De => g ρ out { De with nx := fun ρ' out' => u ρ' out' De }
@[simp] def yIf (c : VB) (g u : VY) : VY := fun ρ out De => c ρ (fun k => if k = true then g ρ out De else u ρ out De) (De.ex ρ)
@[simp] def yFor (ti : VIt) (tg : VTg) (tb : VY) : VY := fun ρ out De => ti ρ (fun ds => yForGo tg tb ds ρ out De) (De.ex ρ)
where @[simp] yForGo (tg : VTg) (tb : VY) : List D → VEnv → List PyData → GEn → Prop
  | [], ρ, out, De => De.nx ρ out
  | d :: ds, ρ, out, De => tg d ρ fun ρ1 => tb ρ1 out { De with nx := fun ρ2 out2 => yForGo tg tb ds ρ2 out2 De, ct := fun ρ2 out2 => yForGo tg tb ds ρ2 out2 De, bk := De.nx }
@[simp] def yYl (t : VT) : VY := fun ρ out De => out.length < sizeLine ∧ t ρ (fun d => ∃ p, d = .py p ∧ De.nx ρ (out ++ [p])) (De.ex ρ)
end
end VL
set_option Elab.async false
set_option linter.all false
set_option maxRecDepth 100000
set_option maxHeartbeats 4000000
/-! VL103: a generator def's promise, by values; list(g(..)) -/
namespace VL
open PySem PySem.Spec PyProof.Rows L2 GenW
/-- the arguments, what is wanted of all that is handed out, the errors -/
abbrev SY := List D → (List PyData → Prop) → (Er → Prop) → Prop
def spY (b : Bg) (S : SY) : SpG := fun vs H Q E => ∃ Z ds Qd Ed, Gd b Z H ∧ Rps b Z H vs ds ∧ S ds Qd Ed ∧ (∀ ys H' out, Ex b H H' → b.G H' → Rqs Z H' ys out → Qd out → Q ys H') ∧ ∀ c x H' er, Ex b H H' → b.G H' → ErRp b Z H' c x er → Ed er → E c x H'
@[simp] def finY (Q : List PyData → Prop) (E : Er → Prop) : GEn := { nx := fun _ out => Q out, bk := fun _ _ => False, ct := fun _ _ => False, ex := fun _ => E }
section
variable {P : Program} {w : World} {K : PySem.W.Frag} {mg : Str → Option Value} {base : Heap} {b : Bg} {k : Nat} {x qual : Str} {st : Stmt} {f : Addr} {fd : FuncData} {N ps : List Str} {S : SY}
end
/-! ### list(g(..)) -/
structure CalY (P : Program) (w : World) (K : PySem.W.Frag) (mg : Str → Option Value) (base : Heap) (b : Bg) (k : Nat) (x : Str) (ps : List Str) (S : SY) where
  f : Addr
  fd : FuncData
  F : GFn P w K mg base k f fd ps (spY b S)
  g : mg x = some (.ref f)
  kp : PySem.W.keepIn K (.ref f) = true
  bd : Binds K fd ps []
@[simp] def vListY (ns : Str → Prop) (S : SY) (u : VA) : VT := fun ρ Q E => u ρ (fun ds => S ds (fun out => Q (.py (.list out))) fun er => ns er.n ∧ E er) E
section
variable {X : Cx} {b : Bg} {W : WX} {k j : Nat} {x nm : Str} {ps : List Str} {S : SY} {e : Expr} {es : List Expr} {u : VA} {p p2 pos pos2 : Pos} {ns : Str → Prop}
end
end VL
set_option Elab.async false
set_option linter.all false
set_option maxRecDepth 100000
set_option maxHeartbeats 4000000
/-! VL104: a run that is held where the sleeping generators can't be woken wakes none of them: they stay what they are -/
namespace VL
open PySem
open Sem (wp)
section
variable {old : Olds} {a : Array GenState} {s : Shared} {g : Nat}
end
section
variable {M : Model}
end
end VL
set_option Elab.async false
set_option linter.all false
set_option maxRecDepth 100000
set_option maxHeartbeats 4000000
/-! VL105: a generator that sleeps while its consumer runs any code: contexts, protocol, plain statements, yield -/
namespace VL
open PySem PySem.Spec PyProof.Rows L2 GenW
/-! ### the heap's first objects -/
def pre (n : Nat) (h : Heap) : Heap := ⟨h.objs.extract 0 n, h.life⟩
def cut (n : Nat) (s : Shared) : Shared := { s with heap := pre n s.heap }
/-! ### contexts -/
/-- behind a call that let an exception out; what is pinned stands in the ground -/
def CXP (P : Program) (w : World) (outer : List Env) (H : Hp) (s : Shared) (E : XK) (pn : List (Addr × Obj)) (u : Value) (s' : Shared) : Prop :=
  ∃ (a : Addr) (B : Heap) (H' : Hp) (cls : Value) (d : Option Addr), u = .ref a ∧ HandSPX.FlyingZ B outer a (Zc cls d) s'.heap ∧ HOk P w H' B ∧ UB (frs outer) H H' s.heap B s'.heap ∧ H' a = none ∧ s'.os = s.os ∧ AllBare s'.gens ∧ E cls d H' ∧ ∀ p ∈ pn, B.get? p.1 = some p.2 ∧ H' p.1 = none
section
variable {P : Program} {w : World} {K : PySem.W.Frag} {mg : Str → Option Value} {base : Heap} {N : List Str} {qual : Str} {scope : Scope} {f : Addr} {cd : Value} {A : Around} {outer : List Env} {n0 : Addr} {s : Shared} {H : Hp} {E : XK} {pn : List (Addr × Obj)}
end
/-- what a consumer holds where it wakes the generator: turns that are left, the state, the heap, what is owned -/
abbrev Cons := Nat → Shared → Hp → (Addr → Prop) → List (Addr × Obj) → Prop
/-- one generator: its def, its frame, its object, what its consumer asks -/
structure GD where
  P : Program
  w : World
  K : PySem.W.Frag
  mg : Str → Option Value
  base : Heap
  N : List Str
  qual : Str
  scope : Scope
  f : Addr
  cd : Value
  A : Around
  outer : List Env
  n0 : Addr
  E : Hp → (Addr → Prop) → XK
  pn : List (Addr × Obj)
  b : Bg
  a : Addr
  g : Nat
  T : Nat
  J : Cons
  Yd : Nat → PyData → Prop
  Qd : Nat → Prop
abbrev GD.env (G : GD) : Env := envOfC G.qual G.scope G.n0 G.f G.cd
structure GOk (G : GD) : Prop where
  nocell : ∀ x c, G.env.cells.lookup x = some c → False
  low : ∀ b ∈ frs G.outer, b < G.n0
  pnlow : ∀ p ∈ G.pn, G.n0 ≤ p.1
  gen : ∀ h : Heap, (∀ p ∈ G.pn, h.get? p.1 = some p.2) → h.IsGen G.a G.g
  apn : ∃ o, (G.a, o) ∈ G.pn
  yT : ∀ i d, G.Yd i d → i < G.T
/-- while it sleeps: of what was tracked only what others own may change -/
structure Naps (b : Bg) (H : Hp) (Z : Addr → Prop) (H2 : Hp) (Z2 : Addr → Prop) : Prop where
  g : b.G H2
  zb : ∀ a, b.B a → Z2 a
  dom : ∀ a, Z2 a → H2 a ≠ none
  young : ∀ a, Z2 a → Z a ∨ H a = none
  keep : ∀ a o, H a = some o → ¬ Z a → H2 a = some o
/-- a state in which it may be woken: own: its own records as they stood -/
structure Wakeable (G : GD) (own : List (Addr × Obj)) (H : Hp) (Z : Addr → Prop) (H2 : Hp) (Z2 : Addr → Prop) (xp : List (Addr × Obj)) (s2 : Shared) : Prop where
  nap : Naps G.b H Z H2 Z2
  bare : AllBare s2.gens
  bs : ∀ b o, G.base.get? b = some o → s2.heap.get? b = some o ∧ H2 b = none
  funs : s2.heap.FunFrames G.base G.outer
  frf : ∀ b ∈ frs G.outer, H2 b = none
  hok : HOk G.P G.w H2 s2.heap
  ownk : ∀ p ∈ own, s2.heap.get? p.1 = some p.2 ∧ H2 p.1 = none
  sz : G.n0 ≤ s2.heap.objs.size
  xok : ∀ p ∈ xp, s2.heap.get? p.1 = some p.2 ∧ H2 p.1 = none ∧ p.1 ≠ G.n0 ∧ p.1 ∉ frs G.outer ∧ (∀ v, p.2.data ≠ .cell v) ∧ ∀ p' ∈ own, p.1 ≠ p'.1
section
variable {G : GD} {ip : List (Addr × Obj)} {σ : L2.St} {H H2 H0 : Hp} {Z Z2 Z0 : Addr → Prop} {xp xp2 : List (Addr × Obj)} {s s2 s0 : Shared}
/-- what it hands over where it falls asleep, or ends -/
structure Gives (G : GD) (s₀ : Shared) (H0 : Hp) (xp : List (Addr × Obj)) (H1 : Hp) (s : Shared) : Prop where
  os : s.os = s₀.os
  bare : AllBare s.gens
  un : Un (frs G.outer) [] H0 H1 (pre G.n0 s₀.heap) s.heap
  hok : HOk G.P G.w H1 s.heap
  ex : Ex G.b H0 H1
  g : G.b.G H1
  gen : s.heap.IsGen G.a G.g
  xk : ∀ p ∈ xp, s.heap.get? p.1 = some p.2 ∧ H1 p.1 = none
def OwnP (G : GD) (own : List (Addr × Obj)) (s : Shared) (H1 : Hp) : Prop := (∃ o, (G.a, o) ∈ own) ∧ ∀ p ∈ own, s.heap.get? p.1 = some p.2 ∧ H1 p.1 = none ∧ G.n0 ≤ p.1 ∧ ∀ v, p.2.data ≠ .cell v
end
/-! ### the protocol -/
/-- others' records are none of the generator's own -/
def Dj (xp ip : List (Addr × Obj)) : Prop := ∀ p ∈ xp, ∀ p' ∈ ip, p.1 ≠ p'.1
def GYZ (G : GD) : Protocol := fun m s₀ v s kap => ∃ (H0 : Hp) (Z0 : Addr → Prop) (H1 : Hp) (x : V) (d : PyData) (own xp : List (Addr × Obj)), G.J (m + 1) s₀ H0 Z0 xp ∧ RelV x v ∧ Rq Z0 H1 x d ∧ G.Yd (G.T - (m + 1)) d ∧ Gives G s₀ H0 xp H1 s ∧ OwnP G own s H1 ∧ Dj xp own ∧
  ∀ s2 H2 Z2 xp2, G.J m s2 H2 Z2 xp2 → Wakeable G own H1 Z0 H2 Z2 xp2 s2 → kap (.send .none) s2
def GRZ (G : GD) : GenEnd := fun n s₀ r s => ((r = .ok (.ret .none) ∨ r = .ok .next) ∧ ∃ H0 Z0 H1 xp, G.J n s₀ H0 Z0 xp ∧ Gives G s₀ H0 xp H1 s ∧ G.Qd (G.T - n)) ∨
  ∃ e H0 Z0 xp, r = .error e ∧ G.J n s₀ H0 Z0 xp ∧ CXP G.P G.w G.outer H0 (cut G.n0 s₀) (G.E H0 Z0) (G.pn ++ xp) e s ∧ s.heap.IsGen G.a G.g
/-- where a segment stands: turns, the heap and what was owned where it was woken -/
structure Pt where
  i : Nat
  H0 : Hp
  Z0 : Addr → Prop
  xp : List (Addr × Obj)
structure GZ where
  nx : Pt → L2.St → Hp → Prop
  bk : Pt → L2.St → Hp → Prop
  ct : Pt → L2.St → Hp → Prop
abbrev SegZ (G : GD) (n : Nat) (s₀ : Shared) (c : Code) (t : Sem PySem.Fin) (fs : List Frame) (s : Shared) : Prop := Seg (model G.P G.w) G.A (GRZ G) (GYZ G) n s₀ c t fs s
section
variable {G : GD} {st : Stmt} {rest : List Stmt}
end
end VL
set_option Elab.async false
set_option linter.all false
set_option maxRecDepth 100000
set_option maxHeartbeats 4000000
/-! VL106: loops in a generator that sleeps while its consumer runs -/
namespace VL
open PySem PySem.Spec PyProof.Rows L2 GenW
section
variable {G : GD} {ip : List (Addr × Obj)} {c c' : Code} {fs : List Frame} {K : Flow → Sem PySem.Fin} {J : Value → Sem PySem.Fin} {gd : Bool → Bool} {lv : List Value → List Value} {D : GZ} {n : Nat} {q : Pt} {s₀ s : Shared} {e : Value} {p : Pos}
end
section
variable {G : GD}
end
end VL
set_option Elab.async false
set_option linter.all false
set_option maxRecDepth 100000
set_option maxHeartbeats 4000000
/-! VL107: readings of such a generator's body: the number of items that are out -/
namespace VL
open PySem PySem.Spec PyProof.Rows L2 GenW
/-- what is wanted behind a statement, and of each item -/
structure GEz where
  nx : VEnv → Nat → Prop
  bk : VEnv → Nat → Prop
  ct : VEnv → Nat → Prop
  yd : Nat → PyData → Prop
  ex : VEnv → Er → Prop
abbrev VZ := VEnv → Nat → GEz → Prop
abbrev nobody : Addr → Prop := fun _ => False
section
variable {b : Bg} {H H1 H2 : Hp} {Zo Z Z1 Z2 : Addr → Prop} {σ σ' : L2.St} {ρ ρ' : VEnv}
end
/-- no name owns anything -/
@[simp] def noOwns : VEnv → Prop
  | [] => True
  | .own _ :: _ => False
  | .un :: r => noOwns r
  | .shr _ :: r => noOwns r
section
variable {G : GD} {Hm H H1 : Hp} {Zm Z Z' : Addr → Prop} {q : Pt} {σ σ' : L2.St} {ρ ρ' : VEnv} {De : GEz} {D : GZ}
end
section
variable {G : GD} {st : Stmt} {rest xs zs body : List Stmt} {t : VS} {g u : VZ} {pos yp : Pos}
/-- a statement that hands out nothing -/
@[simp] def zP (t : VS) : VZ := fun ρ i De => t ρ { nx := fun ρ' => De.nx ρ' i, rt := fun _ => False, bk := fun ρ' => De.bk ρ' i, ct := fun ρ' => De.ct ρ' i, ex := De.ex }
@[simp] def zNil : VZ := fun ρ i De => De.nx ρ i
@[simp] def zThen (g u : VZ) : VZ := fun ρ i De => g ρ i { De with nx := fun ρ' i' => u ρ' i' De }
@[simp] def zIf (c : VB) (g u : VZ) : VZ := fun ρ i De => c ρ (fun k => if k = true then g ρ i De else u ρ i De) (De.ex ρ)
/-- an item: plain data; no name owns anything here -/
@[simp] def zYl (t : VT) : VZ := fun ρ i De => noOwns ρ ∧ t ρ (fun d => ∃ p, d = .py p ∧ De.yd i p ∧ De.nx ρ (i + 1)) (De.ex ρ)
@[simp] def zFor (ti : VIt) (tg : VTg) (tb : VZ) : VZ := fun ρ i De => ti ρ (fun ds => zForGo tg tb ds ρ i De) (De.ex ρ)
where @[simp] zForGo (tg : VTg) (tb : VZ) : List D → VEnv → Nat → GEz → Prop
  | [], ρ, i, De => De.nx ρ i
  | d :: ds, ρ, i, De => tg d ρ fun ρ1 => tb ρ1 i { De with nx := fun ρ2 i2 => zForGo tg tb ds ρ2 i2 De, ct := fun ρ2 i2 => zForGo tg tb ds ρ2 i2 De, bk := De.nx }
end
end VL
set_option Elab.async false
set_option linter.all false
set_option maxRecDepth 100000
set_option maxHeartbeats 4000000
/-! VL108: the promise of a generator def whose consumer runs any code -/
namespace VL
open PySem PySem.Spec PyProof.Rows L2 GenW
/-- the arguments; what is asked of each item by its place; of their number; of an error ahead of them -/
abbrev SZ := List D → (Nat → PyData → Prop) → (Nat → Prop) → (Er → Prop) → Prop
@[simp] def finZ (Y : Nat → PyData → Prop) (Q : Nat → Prop) (E : Er → Prop) : GEz := { nx := fun _ i => Q i, bk := fun _ _ => False, ct := fun _ _ => False, yd := Y, ex := fun _ => E }
/-- an error's wish, by where its segment began -/
def EZ (b : Bg) (Ed : Er → Prop) : Hp → (Addr → Prop) → XK := fun H Z c d H' => ∃ er, Ed er ∧ Ex b H H' ∧ b.G H' ∧ ErRp b Z H' c d er
def GD.use (G : GD) (A : Around) (T : Nat) (J : Cons) (Y : Nat → PyData → Prop) (Q : Nat → Prop) (Ed : Er → Prop) : GD := { G with A := A, E := EZ G.b Ed, T := T, J := J, Yd := Y, Qd := Q }
/-- a generator that has not begun -/
structure MadeZ (P : Program) (w : World) (base : Heap) (k : Nat) (outer : List Env) (b : Bg) (S : SZ) (ds : List D) (H : Hp) (Z : Addr → Prop) (s : Shared) (G : GD) (c : Code) (own : List (Addr × Obj)) (s' : Shared) : Prop where
  is : G.P = P ∧ G.w = w ∧ G.base = base ∧ G.outer = outer ∧ G.n0 = s.heap.objs.size ∧ G.b = b
  gen : s'.heap.IsGen G.a G.g
  at_ : s'.gens[G.g]? = some (.fresh c)
  os : s'.os = s.os
  bare : AllBare s'.gens
  keep : ∀ c o, s.heap.get? c = some o → s'.heap.get? c = some o
  ownp : OwnP G own s' H
  run : ∀ (A : Around) (T : Nat) (J : Cons) (Y : Nat → PyData → Prop) (Q : Nat → Prop) (Ed : Er → Prop), Room k A → A.frames = some outer → S ds Y Q Ed → (∀ i d, Y i d → i < T) → GOk (G.use A T J Y Q Ed) ∧
    ∀ s2 H2 Z2 xp2, J T s2 H2 Z2 xp2 → Wakeable (G.use A T J Y Q Ed) own H Z H2 Z2 xp2 s2 → SegZ (G.use A T J Y Q Ed) T s2 c ((model P w).den c) [] s2
structure GFnZ (P : Program) (w : World) (K : PySem.W.Frag) (mg : Str → Option Value) (base : Heap) (b : Bg) (k : Nat) (f : Addr) (fd : FuncData) (ps : List Str) (S : SZ) : Prop where
  len : ∀ ds Y Q E, S ds Y Q E → ds.length = ps.length
  run : ∀ (A : Around) (outer : List Env) (s : Shared) (H : Hp) (Z : Addr → Prop) (args : Args) (us : List Value) (vs : List V) (ds : List D), Room k A → Env0 P w K mg base A outer s H → BindsTo s fd args (ps.zip us) → Vals vs us → Gd b Z H → Rps b Z H vs ds → ds.length = ps.length →
    codeAny (model P w) A (.call (.ref f) args) (fun r s' => ∃ G c own, r = .ok (.ret (.ref G.a)) ∧ MadeZ P w base k outer b S ds H Z s G c own s') s
section
variable {P : Program} {w : World} {K : PySem.W.Frag} {mg : Str → Option Value} {base : Heap} {b : Bg} {k : Nat} {f : Addr} {name qual : Str} {params : Arguments} {body : List Stmt} {scope : Scope} {dV kV doc pm cdv ct oc : Value} {an od : Option Addr} {osl : Array (Option Value)} {N ps : List Str} {S : SZ} {g : VZ}
end
end VL
set_option Elab.async false
set_option linter.all false
set_option maxRecDepth 100000
set_option maxHeartbeats 4000000
/-! VL109: the consumer's turn: next of such a generator; it sleeps behind it, and stays as it is through any code -/
namespace VL
open PySem PySem.Spec PyProof.Rows L2 GenW
open Sem (wp)
section
variable {P : Program} {w : World} {B : Around} {Ex' : Value → Shared → Prop} {st : Shared}
end
end VL
set_option Elab.async false
set_option linter.all false
set_option maxRecDepth 100000
set_option maxHeartbeats 4000000
/-! VL110: the consumer: what it keeps while it runs, the turn -/
namespace VL
open PySem PySem.Spec PyProof.Rows L2 GenW
section
variable {X : Cx} {pins : List (Addr × Obj)} {σ : L2.St} {H : Hp} {s : Shared}
end
section
variable {X : Cx} {pins : List (Addr × Obj)} {σ : L2.St} {H : Hp} {s : Shared} {xe : Value → Shared → Prop}
end
section
variable {G : GD} {X : Cx} {pins : List (Addr × Obj)} {σ : L2.St} {H H1 : Hp} {Z Z1 : Addr → Prop} {s : Shared} {own xp : List (Addr × Obj)} {n m : Nat}
def above (n0 : Nat) (h : Heap) : List Addr := (List.range h.objs.size).filter fun b => decide (n0 ≤ b)
end
end VL
set_option Elab.async false
set_option linter.all false
set_option maxRecDepth 100000
set_option maxHeartbeats 4000000
/-! VL111: `for x in g(..)` with any body that lets no exception out -/
namespace VL
open PySem PySem.Spec PyProof.Rows L2 GenW
structure CalZ (P : Program) (w : World) (K : PySem.W.Frag) (mg : Str → Option Value) (base : Heap) (b : Bg) (k : Nat) (x : Str) (ps : List Str) (S : SZ) where
  f : Addr
  fd : FuncData
  F : GFnZ P w K mg base b k f fd ps S
  g : mg x = some (.ref f)
  kp : PySem.W.keepIn K (.ref f) = true
  bd : Binds K fd ps []
section
variable {X : Cx} {b : Bg} {W : WX} {k j : Nat} {x : Str} {ps : List Str} {S : SZ} {e : Expr} {es : List Expr} {u : VA} {p pos pos2 fpos : Pos} {ns : Str → Prop}
variable {pins : List (Addr × Obj)} {σ : L2.St} {H : Hp} {s : Shared} {Zo Z : Addr → Prop} {ρ : VEnv} {Qd : List D → Prop} {Ed : Er → Prop}
@[simp] def sForZ (ns : Str → Prop) (S : SZ) (u : VA) (tv : VTg) (tb : VS) : VS := fun ρ De => u ρ (fun ds =>
  (∃ out : List PyData, S ds (fun i d => out[i]? = some d) (fun i => i = out.length) (fun _ => False) ∧ forGo tv tb (out.map D.py) ρ { De with ex := fun _ _ => False }) ∨ S ds (fun _ _ => False) (fun _ => False) (fun er => ns er.n ∧ De.ex ρ er)) (De.ex ρ)
end
end VL
set_option Elab.async false
set_option linter.all false
set_option maxRecDepth 100000
set_option maxHeartbeats 4000000
/-! VL112: a comprehension over a generator: its block as the consumer -/
namespace VL
open PySem PySem.Spec PyProof.Rows L2 GenW
section
variable {X : Cx} {pins : List (Addr × Obj)} {σ : L2.St} {H H1 : Hp} {s : Shared} {n0 : Nat}
end
end VL
set_option Elab.async false
set_option linter.all false
set_option maxRecDepth 100000
set_option maxHeartbeats 8000000
/-! VL113: `[item for x in g(..)]` -/
namespace VL
open PySem PySem.Spec PyProof.Rows L2 GenW
section
variable {X : Cx} {b : Bg} {W : WX} {k j : Nat} {x : Str} {ps : List Str} {S : SZ} {e : Expr} {es : List Expr} {u : VA} {p pos pos2 pos' : Pos} {ns : Str → Prop}
end
end VL
set_option Elab.async false
set_option linter.all false
set_option maxRecDepth 100000
set_option maxHeartbeats 8000000
/-! VL114: `[item for x in g(..)]` over values -/
namespace VL
open PySem PySem.Spec PyProof.Rows L2 GenW
@[simp] def vLcZ (ns : Str → Prop) (vs : List Nat) (S : SZ) (u : VA) (g : VTg) (tt : VB) (te : VT) : VT := fun ρ Q E => noOwn ρ vs ∧ u ρ (fun ds =>
  (∃ out : List PyData, S ds (fun i d => out[i]? = some d) (fun i => i = out.length) (fun _ => False) ∧ lcGo g tt te Q (out.map D.py) [] (wipeE ρ vs)) ∨ S ds (fun _ _ => False) (fun _ => False) (fun er => ns er.n ∧ E er)) E
section
variable {b : Bg} {W : WX} {js : List Nat} {g : VTg} {tt : VB} {te : VT} {vs : List Nat}
end
section
variable {X : Cx} {b : Bg} {W : WX} {k j : Nat} {x : Str} {ps : List Str} {S : SZ} {e elt tg : Expr} {es ifs : List Expr} {u : VA} {p pos pos2 spos py : Pos} {ns : Str → Prop} {scope : Scope} {own : List (Str × Nat)} {js : List Nat} {g : VTg} {tt : VB} {te : VT} {i : Nat} {y : Str}
end
end VL
set_option Elab.async false
set_option linter.all false
set_option maxRecDepth 100000
set_option maxHeartbeats 8000000
/-! VL115: `yield from` a list in such a generator -/
namespace VL
open PySem PySem.Spec PyProof.Rows L2 GenW
section
variable {P : Program} {w : World} {B : Around} {Er' : Value → Shared → Prop} {st : Shared}
end
section
variable {G : GD} {ip : List (Addr × Obj)} {σ : L2.St} {fs : List Frame} {it a : Addr} {vs : List V} {ds : List PyData}
@[simp] def zYf (t : VT) : VZ := fun ρ i De => noOwns ρ ∧ t ρ (fun d => ∃ ds : List PyData, d = .py (.list ds) ∧ (∀ k p, ds[k]? = some p → De.yd (i + k) p) ∧ De.nx ρ (i + ds.length)) (De.ex ρ)
end
end VL
set_option Elab.async false
set_option linter.all false
set_option maxRecDepth 100000
set_option maxHeartbeats 8000000
/-! VL116: list(g(..)) of such a generator -/
namespace VL
open PySem PySem.Spec PyProof.Rows L2 GenW
section
variable {X : Cx} {pins : List (Addr × Obj)} {σ : L2.St} {H : Hp} {s : Shared}
end
@[simp] def vListZ (ns : Str → Prop) (S : SZ) (u : VA) : VT := fun ρ Q E => u ρ (fun ds =>
  (∃ out : List PyData, S ds (fun i d => out[i]? = some d) (fun i => i = out.length) (fun _ => False) ∧ out.length ≤ sizeLine ∧ Q (.py (.list out))) ∨ S ds (fun _ _ => False) (fun _ => False) (fun er => ns er.n ∧ E er)) E
section
variable {X : Cx} {b : Bg} {W : WX} {k j : Nat} {x nm : Str} {ps : List Str} {S : SZ} {e : Expr} {es : List Expr} {u : VA} {p p2 pos pos2 : Pos} {ns : Str → Prop}
end
end VL
set_option Elab.async false
set_option linter.all false
set_option maxRecDepth 100000
set_option maxHeartbeats 8000000
/-! VL117: generator defs of the text; a keyword-only parameter -/
namespace VL
open PySem PySem.Spec PyProof.Rows L2 GenW
section
variable {P : Program} {w : World} {K : PySem.W.Frag} {mg : Str → Option Value} {base : Heap} {b : Bg} {k : Nat} {x qual : Str} {st : Stmt} {f : Addr} {fd : FuncData} {N ps : List Str} {S : SZ}
end
/-- .. with a keyword-only parameter that has a default -/
structure CalZW (P : Program) (w : World) (K : PySem.W.Frag) (mg : Str → Option Value) (base : Heap) (b : Bg) (k : Nat) (x : Str) (ps : List Str) (kn : Str) (dv : PyData) (S : SZ) where
  f : Addr
  fd : FuncData
  F : GFnZ P w K mg base b k f fd (ps ++ [kn]) S
  g : mg x = some (.ref f)
  kp : PySem.W.keepIn K (.ref f) = true
  b0 : ∃ v ds, Vals [v] ds ∧ Binds K fd (ps ++ [kn]) ds ∧ ∀ Z H, Rq Z H v dv
  b1 : KBn K fd (ps ++ [kn]) ps.length [kn] (fun us ws => us ++ ws) (fun vs zs => vs ++ zs)
@[simp] def szW (dv : PyData) (S : SZ) : SZ := fun ds Y Q E => S (ds ++ [.py dv]) Y Q E
section
variable {X : Cx} {b : Bg} {W : WX} {k j : Nat} {x kn : Str} {ps : List Str} {dv : PyData} {S : SZ} {e e2 : Expr} {es : List Expr} {u : VA} {t : VT} {p pos kpos : Pos}
/-- the arguments, then the keyword's -/
@[simp] def vArgK (u : VA) (t : VT) : VA := fun ρ Q E => u ρ (fun ds => t ρ (fun d => Q (ds ++ [d])) E) E
end
end VL
set_option Elab.async false
set_option linter.all false
set_option maxRecDepth 100000
set_option maxHeartbeats 4000000
/-! VL118: range over ints of any size -/
namespace VL
open PySem PySem.Spec PyProof.Rows L2
@[simp] def asRB : List D → (List D → Prop) → Prop
  | [.py (.int i), .py (.int j)], Q => Q ((rangeP i (j - i).toNat).map D.py)
  | _, _ => False
@[simp] def iRB (t : VA) : VIt := fun ρ Q E => t ρ (fun d => asRB d Q) E
section
variable {X : Cx} {b : Bg} {W : WX} {tg e1 e2 : Expr} {ta : VA} {p pos : Pos}
end
end VL
set_option Elab.async false
set_option linter.all false
set_option maxRecDepth 100000
set_option maxHeartbeats 4000000
/-! VL119: a dict of one text and a number -/
namespace VL
open PySem PySem.Spec PyProof.Rows L2
@[simp] def vDS (t : VT) (j : Int) : VT := fun ρ Q E => t ρ (fun d => ∃ z, d = .py (.str z) ∧ Q (.py (.dict [(.str z, .int j)]))) E
end VL
set_option Elab.async false
set_option linter.all false
set_option maxRecDepth 100000
set_option maxHeartbeats 4000000
/-! VL120: a call of an item of a list of defs: [f, g, ..][i](..) -/
namespace VL
open PySem PySem.Spec PyProof.Rows L2
/-- the defs of a list: what each promises -/
structure PickF (X : Cx) (b : Bg) (k : Nat) (fns : List Expr) (Ss : List SV) where
  fs : List Addr
  pa : PA X fns fun _ H Q => Q (fs.map V.ref) H
  len : fs.length = Ss.length
  fn : ∀ (n : Nat) (f : Addr) (S : SV), fs[n]? = some f → Ss[n]? = some S → PySem.W.keepIn X.K (.ref f) = true ∧ ∀ (_ : Room k X.A) (E : L2.St → XK) (_ : ∀ σ, PassesAt (L2.CX X.prog X.w) X σ (E σ)) (pins : List (Addr × Obj)) (σ : L2.St) (H : Hp) (s : Shared) (Q : VK) (us : List Value) (vs : List V),
    Inv X pins σ H s → Vals vs us → spV b S vs H Q (E σ) → wpAny (model X.prog X.w) X.A (call (.ref f) us) (EP X pins σ Q) X.xe s
section
variable {X : Cx} {b : Bg} {W : WX} {k j kx : Nat} {x : Str} {ps : List Str} {S : SV} {e ie : Expr} {es fns : List Expr} {Ss : List SV} {u : VA} {ti : VT} {p pos lp sp : Pos}
@[simp] def vCallIx (Ss : List SV) (ti : VT) (u : VA) : VT := fun ρ Q E => ti ρ (fun d => ∃ n : Nat, d = .py (.int (n : Int)) ∧ ∃ S, Ss[n]? = some S ∧ u ρ (fun ds => S ds Q E) E) E
end
end VL
set_option Elab.async false
set_option linter.all false
set_option maxRecDepth 100000
set_option maxHeartbeats 4000000
/-! VL121: == of two empty dicts, too -/
namespace VL
open PySem PySem.Spec PyProof.Rows L2
@[simp] def gEqE : D → D → (D → Prop) → Prop
  | .py (.dict []), .py (.dict []), Q => Q (.py (.bool true))
  | x, y, Q => gEq x y Q
section
variable {X : Cx} {b : Bg} {W : WX} {e1 e2 : Expr} {t1 t2 : VT} {pos : Pos}
end
end VL
set_option Elab.async false
set_option linter.all false
set_option maxRecDepth 100000
set_option maxHeartbeats 4000000
/-! VL122: a dict beside a tuple (!=) -/
namespace PySem
open PySem.Spec PyProof.Rows PySem.SeqAt
open Sem (wp)
end PySem
namespace VL
open PySem PySem.Spec PyProof.Rows L2
section
variable {X : Cx} {b : Bg} {W : WX} {e1 e2 : Expr} {t1 t2 : VT} {pos : Pos}
/-- .. a tuple on the right; a dict is no tuple -/
@[simp] def gNeU : D → D → (D → Prop) → Prop
  | .py (.dict _), .py (.tuple _), Q => Q (.py (.bool true))
  | x, y, Q => gNe x y Q
end
end VL
set_option Elab.async false
set_option linter.all false
set_option maxRecDepth 100000
set_option maxHeartbeats 4000000
/-! VL123: objects that change: their fields; tuples of objects; an own object lent to a def -/
namespace VL
open PySem PySem.Spec PyProof.Rows L2 StX
/-! ### fields -/
@[simp] def fvD : FV → D
  | .py p => .py p
  | .tps n L => .tps n L
  | .adr a => .raw (.ref a)
@[simp] def dFv : D → Option FV
  | .py p => some (.py p)
  | .tps n L => some (.tps n L)
  | .raw (.ref a) => some (.adr a)
  | _ => none
theorem RFv.rp {b : Bg} {Z : Addr → Prop} {H : Hp} {v : V} {x : FV} (r : RFv b.cls Z H v x) : Rp b Z H v (fvD x) := by cases x <;> exact r
theorem Rp.fv {b : Bg} {Z : Addr → Prop} {H : Hp} {v : V} {d : D} {x : FV} (r : Rp b Z H v d) (h : dFv d = some x) : RFv b.cls Z H v x := by
  cases d with
  | py p => cases h; exact r
  | tps n L => cases h; exact r
  | raw u =>
    cases u <;> first | (cases h; exact r) | cases h
  | _ => cases h
@[simp] def gFldQ (ns : List Str) (f : Str) : D → (D → Prop) → Prop
  | .rob _ m fs, Q => m ∈ ns ∧ ∃ x, fs.lookup f = some x ∧ Q (fvD x)
  | _, _ => False
@[simp] def putFV (f : Str) (p : FV) : List (Str × FV) → List (Str × FV)
  | [] => [(f, p)]
  | (g, x) :: r => if g = f then (g, p) :: r else (g, x) :: putFV f p r
theorem RFs.put {cls : Str → Addr} {Z : Addr → Prop} {H : Hp} {f : Str} {v : V} {p : FV} (r : RFv cls Z H v p) : ∀ {xs : List (Str × V)} {fs : List (Str × FV)}, RFs cls Z H xs fs → RFs cls Z H (putF f v xs) (putFV f p fs)
  | _, _, .nil => .cons r .nil
  | _, _, .cons (k := k) q t => by
    unfold putF putFV
    by_cases e : k = f
    · rw [if_pos e, if_pos e]; exact .cons r t
    · rw [if_neg e, if_neg e]; exact .cons q (RFs.put r t)
theorem Rb.rob {b : Bg} {Z : Addr → Prop} {H : Hp} {v : V} {a : Addr} {n : Str} {fs : List (Str × FV)} (r : Rb b Z H v (.rob a n fs)) : ∃ dx xs, v = .ref a ∧ H a = some (.ins (b.cls n) dx xs) ∧ RFs b.cls Z H xs fs := by
  rcases r with ⟨dx, xs, e, h, _, q⟩ | ⟨a, e, _, _, rfl, dx, xs, h, q⟩
  · exact ⟨dx, xs, e, h, q⟩
  · exact ⟨dx, xs, e, h, q⟩
section
variable {X : Cx} {b : Bg} {W : WX} {e o : Expr} {n f : Str} {t : VT} {pos pos' : Pos} {i : Nat} {ns : List Str}
theorem ve_fldQ (c : ∀ n ∈ ns, Cls X.K (b.cls n) ∧ NoAttr X.K (b.cls n) f) (h : VX X b W e t) (hb : attributeBase e f X.env (eval e X.env) = eval e X.env := by rfl) : VE X b W (.Attribute e f pos) (vUn (gFldQ ns f) t) :=
  pe_mono (pe_fld h hb) fun σ H Q ⟨Zo, Z, ρ, Qd, Ed, v, q, l, m⟩ => ⟨Zo, Z, ρ, _, Ed, v, q, fun x H1 d x1 g1 r1 q1 => by
    match d, q1, r1 with
    | .rob a n fs, ⟨hn, p, hp, q1⟩, r1 =>
      obtain ⟨dx, xs, rfl, hH, rq⟩ := r1.rob
      obtain ⟨u, hu, ru⟩ := rq.look hp
      exact ⟨a, _, dx, xs, u, rfl, hH, (c n hn).1, (c n hn).2, hu, l u H1 _ x1 g1 ru.rp q1⟩, m⟩
/-- o.f = value, o an own object -/
@[simp] def sFldQ (i : Nat) (ns : List Str) (f : Str) (t : VT) : VS := fun ρ De => t ρ (fun d => ∃ x a n fs, dFv d = some x ∧ n ∈ ns ∧ ρ[i]? = some (.own (.rob a n fs)) ∧ fs.length < 1000 ∧ De.nx (ρ.set i (.own (.rob a n (putFV f x fs))))) (De.ex ρ)
theorem vs_fldQ (c : ∀ n ∈ ns, Cls X.K (b.cls n) ∧ NoAttr X.K (b.cls n) f) (ho : PE X o (tVar i)) (he : VE X b W e t) (hs : swapsWith e (some (.Attribute o f pos')) pos.line X.env = pure false := by rfl) : VSt X b W (.Assign [.Attribute o f pos'] e pos) (sFldQ i ns f t) :=
  ps_mono (ps_fld ho he hs) fun D σ H ⟨H0, M, Zo, Z, ρ, De, fo, q, l⟩ => ⟨Zo, Z, ρ, _, _, fo.v, q, fun v H' d x g r ⟨p, a, n, fs, ed, hn, er, hl, q2⟩ => by
    have rv := r.fv ed
    have f1 := fo.ex x g
    obtain ⟨a', h1, h2, h3, ea, dx, xs, h4, h5⟩ := f1.v.own i _ er
    subst ea
    refine ⟨.ref a', h1, a', b.cls n, dx, xs, rfl, h4, (c n hn).1, (c n hn).2, by rw [h5.len]; exact hl, l.nx _ _ _ _ (f1.mut (d' := .rob a' n (putFV f p fs)) er h1 ⟨rfl, dx, putF f v xs, upd_same, ?_⟩) q2⟩
    have up_ : ∀ b2 u, H' b2 = some u → ¬ Z b2 → upd H' a' (.ins (b.cls n) dx (putF f v xs)) b2 = some u := fun b2 u ee nz => by
      rw [upd_ne (fun w => nz (by rw [w]; exact h2))]
      exact ee
    exact RFs.put (rv.mono (fun _ z => .inl z) up_) (h5.mono (fun _ z => .inl z) up_), l.er fo⟩
end
/-! ### tuples of objects -/
theorem Rqo.len {C : Addr} {Z : Addr → Prop} {H : Hp} : ∀ {v : List V} {L : List (List (Str × PyData))}, Rqo C Z H v L → v.length = L.length
  | _, _, .nil => rfl
  | _, _, .cons _ _ _ t => congrArg (· + 1) (Rqo.len t)
theorem Rqo.get {C : Addr} {Z : Addr → Prop} {H : Hp} : ∀ {v : List V} {L : List (List (Str × PyData))} {i : Nat} {fs : List (Str × PyData)}, Rqo C Z H v L → L[i]? = some fs → ∃ a dx xs, v[i]? = some (.ref a) ∧ H a = some (.ins C dx xs) ∧ ¬ Z a ∧ Rqf Z H xs fs
  | _, _, _, _, .nil, e => by simp at e
  | _, _, 0, _, .cons h n r t, e => by simp at e; subst e; exact ⟨_, _, _, rfl, h, n, r⟩
  | _, _, i + 1, fs, .cons h n r t, e => by
    obtain ⟨a, dx, xs, h1, h2⟩ := Rqo.get (i := i) (fs := fs) t (by simpa using e)
    exact ⟨a, dx, xs, by simpa using h1, h2⟩
theorem Rqo.append {C : Addr} {Z : Addr → Prop} {H : Hp} : ∀ {v w : List V} {L M : List (List (Str × PyData))}, Rqo C Z H v L → Rqo C Z H w M → Rqo C Z H (v ++ w) (L ++ M)
  | _, _, _, _, .nil, k => k
  | _, _, _, _, .cons h n r t, k => .cons h n r (Rqo.append t k)
theorem Rb.tps {b : Bg} {Z : Addr → Prop} {H : Hp} {v : V} {n : Str} {L : List (List (Str × PyData))} (r : Rb b Z H v (.tps n L)) : RpT b.cls Z H v n L := by
  rcases r with r | ⟨a, _, _, _, q⟩
  · exact r
  · exact q.elim
@[simp] def gIxS : D → D → (D → Prop) → Prop
  | .tps n L, .py (.int i), Q => ∃ fs, atI L i = some fs ∧ ∀ a, Q (.obj a n fs)
  | _, _, _ => False
theorem rd_ixS {b : Bg} {K : PySem.W.Frag} : OpD b (RE b) (rIx K) gIxS := by
  intro Z H x y dx dy Q Qd gd rx ry h k
  match dx, dy, h, rx, ry with
  | .tps n L, .py (.int i), ⟨fs, e, h⟩, rx, ry =>
    obtain ⟨c, o, us, rfl, hc, hd, nz, q⟩ := rx.tps
    have e' : ∃ j, ixN us.length i = some j ∧ L[j]? = some fs := by
      unfold L2.atI at e
      rw [q.len]
      cases ej : ixN L.length i with
      | none => rw [ej] at e; cases e
      | some j => rw [ej] at e; exact ⟨j, rfl, e⟩
    obtain ⟨j, ej, eL⟩ := e'
    obtain ⟨a, dx, xs, h1, h2, h3, h4⟩ := q.get eL
    have ea : L2.atI us i = some (.ref a) := by unfold L2.atI; rw [ej]; exact h1
    exact .inr (.inl ⟨c, us, i, .ref a, rfl, ry.int, SqT.th hc, ea, k _ H (.obj a n fs) Ex.refl gd.g ⟨dx, xs, rfl, h2, h3, h4⟩ (h a)⟩)
section
variable {X : Cx} {b : Bg} {W : WX} {e e1 e2 : Expr} {n f : Str} {t t1 t2 : VT} {pos pos' p : Pos} {i : Nat}
theorem ve_ixS (h1 : VX X b W e1 t1) (h2 : VX X b W e2 t2) (hs : PlainIx e2 := by exact fun _ _ => rfl) : VE X b W (.Subscript e1 e2 pos) (vBin gIxS t1 t2) :=
  pe_mono (pe_ix ix_seq h1 h2 hs) (core2 hRE rd_ixS)
/-- (*e1, e2), e1 a tuple of objects of a class, e2 one more; (e,) -/
@[simp] def vSnocS (t u : VT) : VT := fun ρ Q E => t ρ (fun d => ∃ n L, d = .tps n L ∧ u ρ (fun o => ∃ a fs, o = .obj a n fs ∧ L.length + 1 ≤ sizeLine ∧ Q (.tps n (L ++ [fs]))) E) E
@[simp] def vOneS (t : VT) : VT := fun ρ Q E => t ρ (fun d => ∃ a n fs, d = .obj a n fs ∧ Q (.tps n [fs])) E
theorem tup_new {Z : Addr → Prop} {H H0 : Hp} {n : Str} {us : List V} {L : List (List (Str × PyData))} {Q : VK} {Qd : D → Prop} (g : b.G H) (fresh : ∀ p, H p = none → ¬ Z p) (x0 : Ex b H0 H) (q : Rqo (b.cls n) Z H us L)
    (l : ∀ v H' d, Ex b H0 H' → b.G H' → Rp b Z H' v d → Qd d → Q v H') (h : Qd (.tps n L)) {p : Addr} {o : Obj} (hp : H p = none) (ho : o.dict = none) : Q (.ref p) (upd H p (HO.th o us)) :=
  l _ _ (.tps n L) (x0.trans (Ex.new hp)) (Bg.new g hp) ⟨p, o, us, rfl, upd_same, ho, fresh p hp, q.mono (fun _ z => .inl z) (VL.up hp)⟩ h
theorem ve_snocS {x1} (h1 : VE X b W e1 t1) (h2 : VE X b W e2 t2) (hs : starEach (.Starred e1 p :: [e2]) X.env = (true, eval e1 X.env) :: starEach [e2] X.env := by rfl) (hs2 : starEach (e2 :: []) X.env = (false, eval e2 X.env) :: starEach [] X.env := by rfl) :
    VE X b W (.Tuple [.Starred e1 p, e2] x1 pos) (vSnocS t1 t2) :=
  pe_mono (pe_tupF (pa_star h1 (pa_cons h2 pa_nil hs2) hs)) fun σ H Q ⟨Zo, Z, ρ, Qd, Ed, v, q, l, m⟩ => ⟨Zo, Z, ρ, _, Ed, v, q, fun x H1 d x1 g1 r1 ⟨n, L, ed, q1⟩ => by
    subst ed
    have v1 := v.ex x1 g1
    obtain ⟨c, o, us, rfl, hc, hd, nz, rq⟩ := id r1
    refine ⟨c, us, rfl, .inl (SqT.th hc), Zo, Z, ρ, _, Ed, v1, q1, fun y H2 d2 x2 g2 r2 ⟨a, fs, ed2, hl, q2⟩ => ?_, fun c y H2 er x2 g2 r2 q2 => m c y H2 er (x1.trans x2) g2 r2 q2⟩
    subst ed2
    have v2 := v1.ex x2 g2
    obtain ⟨dx, xs, rfl, ha, na, rf⟩ := r2
    have rq2 := rq.mono (fun _ z => .inl z) (v1.keep x2)
    refine ⟨by rw [List.length_append, rq.len]; exact hl, fun p o' hp ho => ?_⟩
    exact tup_new g2 (fun p hp => v2.fresh hp) (x1.trans x2) (rq2.append (.cons ha na rf .nil)) l q2 hp ho, m⟩
theorem ve_oneS {x1} (h1 : VE X b W e t) (hs : starEach (e :: []) X.env = (false, eval e X.env) :: starEach [] X.env := by rfl) : VE X b W (.Tuple [e] x1 pos) (vOneS t) :=
  pe_mono (pe_tupF (pa_cons h1 pa_nil hs)) fun σ H Q ⟨Zo, Z, ρ, Qd, Ed, v, q, l, m⟩ => ⟨Zo, Z, ρ, _, Ed, v, q, fun x H1 d x1 g1 r1 ⟨a, n, fs, ed, q1⟩ => by
    subst ed
    have v1 := v.ex x1 g1
    obtain ⟨dx, xs, rfl, ha, na, rf⟩ := r1
    refine ⟨(show 1 ≤ sizeLine from Nat.le_of_ble_eq_true rfl), fun p o' hp ho => ?_⟩
    exact tup_new g1 (fun p hp => v1.fresh hp) x1 (.cons ha na rf .nil) l q1 hp ho, m⟩
/-- e[lo:hi], e a tuple of objects -/
@[simp] def gSlS : D → Option Int → Option Int → (D → Prop) → Prop
  | .tps n L, lo, hi, Q => Q (.tps n (cutL L lo hi))
  | _, _, _, _ => False
end
end VL
set_option Elab.async false
set_option linter.all false
set_option maxRecDepth 100000
set_option maxHeartbeats 4000000
/-! VL124: an own object lent to a def, a method, a property that does not change it -/
namespace VL
open PySem PySem.Spec PyProof.Rows L2 StX
/-- the object has a field that only objects that change have -/
@[simp] def hallF (fs : List (Str × FV)) : Prop := (fs.lookup ("scenes" : Str)).isSome = true ∨ (fs.lookup ("pairs" : Str)).isSome = true
@[simp] def hallO : D → Prop
  | .py _ => True
  | .raw _ => True
  | .obj _ _ gs => gs.lookup ("scenes" : Str) = none ∧ gs.lookup ("pairs" : Str) = none
  | _ => False
/-- a value, or an own object that may be lent -/
def Rl (b : Bg) (Z : Addr → Prop) (H : Hp) (v : V) (d : D) : Prop := Rp b Z H v d ∨ ∃ a n fs, d = .rob a n fs ∧ hallF fs ∧ v = .ref a ∧ ¬ b.B a ∧ Z a ∧ Ow b Z H a (.rob a n fs)
inductive Rls (b : Bg) (Z : Addr → Prop) (H : Hp) : List V → List D → Prop
  | nil : Rls b Z H [] []
  | cons {v : V} {d : D} {vs : List V} {ds : List D} : Rl b Z H v d → Rls b Z H vs ds → Rls b Z H (v :: vs) (d :: ds)
theorem Rl.rb {b : Bg} {Z : Addr → Prop} {H : Hp} {v : V} {d : D} (r : Rl b Z H v d) : Rb b Z H v d := by
  rcases r with r | ⟨a, n, fs, rfl, _, rfl, nb, z, o⟩
  · exact .inl r
  · exact .inr ⟨a, rfl, nb, z, o⟩
theorem Rl.mono {b : Bg} {Z : Addr → Prop} {H H' : Hp} (hs : ∀ a o, H a = some o → ¬ Z a → H' a = some o) (x : Ex b H H') {v : V} {d : D} (r : Rl b Z H v d) : Rl b Z H' v d := by
  rcases r with r | ⟨a, n, fs, e, hm, ev, nb, z, q⟩
  · exact .inl (r.mono (fun _ z => .inl z) hs)
  · exact .inr ⟨a, n, fs, e, hm, ev, nb, z, q.mono (fun _ z => .inl z) hs fun o h => x a o h nb⟩
theorem Rps.toL {b : Bg} {Z : Addr → Prop} {H : Hp} : ∀ {v : List V} {d : List D}, Rps b Z H v d → Rls b Z H v d
  | _, _, .nil => .nil
  | _, _, .cons r t => .cons (.inl r) (Rps.toL t)
/-! ### back from a smaller Z -/
section
variable {b : Bg} {Z Zl : Addr → Prop} {H : Hp}
mutual
theorem Rq.wk (hw : ∀ c, Z c → Zl c ∨ ∃ C dx xs, H c = some (.ins C dx xs)) : ∀ {v : V} {d : PyData}, Rq Zl H v d → Rq Z H v d
  | _, _, .non => .non
  | _, _, .bl k => .bl k
  | _, _, .int i => .int i
  | _, _, .str x => .str x
  | _, _, .lst e n r => .lst e (fun z => (hw _ z).elim n fun ⟨_, _, _, q⟩ => by rw [e] at q; cases q) (Rqs.wk hw r)
  | _, _, .tup e d n r => .tup e d (fun z => (hw _ z).elim n fun ⟨_, _, _, q⟩ => by rw [e] at q; cases q) (Rqs.wk hw r)
  | _, _, .dct e n r => .dct e (fun z => (hw _ z).elim n fun ⟨_, _, _, q⟩ => by rw [e] at q; cases q) (Rqk.wk hw r)
theorem Rqs.wk (hw : ∀ c, Z c → Zl c ∨ ∃ C dx xs, H c = some (.ins C dx xs)) : ∀ {v : List V} {d : List PyData}, Rqs Zl H v d → Rqs Z H v d
  | _, _, .nil => .nil
  | _, _, .cons r t => .cons (Rq.wk hw r) (Rqs.wk hw t)
theorem Rqk.wk (hw : ∀ c, Z c → Zl c ∨ ∃ C dx xs, H c = some (.ins C dx xs)) : ∀ {v : List (Key × V)} {d : List (PyData × PyData)}, Rqk Zl H v d → Rqk Z H v d
  | _, _, .nil => .nil
  | _, _, .cons r t => .cons (Rq.wk hw r) (Rqk.wk hw t)
end
theorem Rqf.wk (hw : ∀ c, Z c → Zl c ∨ ∃ C dx xs, H c = some (.ins C dx xs)) : ∀ {v : List (Str × V)} {d : List (Str × PyData)}, Rqf Zl H v d → Rqf Z H v d
  | _, _, .nil => .nil
  | _, _, .cons r t => .cons (Rq.wk hw r) (Rqf.wk hw t)
theorem ErRp.wk (hw : ∀ c, Z c → Zl c ∨ ∃ C dx xs, H c = some (.ins C dx xs)) {c : Value} {x : Option Addr} {er : Er} (r : ErRp b Zl H c x er) : ErRp b Z H c x er := by
  obtain ⟨h1, h2⟩ := r
  refine ⟨h1, h2.imp id ?_⟩
  rintro ⟨a, xs, e1, e2, e3, e4⟩
  exact ⟨a, xs, e1, e2, fun z => (hw _ z).elim e3 (fun ⟨_, _, _, q⟩ => by rw [e2] at q; cases q), e4.wk hw⟩
theorem Rp.wk (hw : ∀ c, Z c → Zl c ∨ ∃ C dx xs, H c = some (.ins C dx xs) ∧ ((xs.lookup ("scenes" : Str)).isSome = true ∨ (xs.lookup ("pairs" : Str)).isSome = true)) {v : V} {d : D} (ho : hallO d) (r : Rp b Zl H v d) : Rp b Z H v d := by
  have hw' : ∀ c, Z c → Zl c ∨ ∃ C dx xs, H c = some (.ins C dx xs) := fun c z => (hw c z).imp id fun ⟨C, dx, xs, e, _⟩ => ⟨C, dx, xs, e⟩
  cases d with
  | py p => exact Rq.wk hw' r
  | raw u => exact r
  | obj a n gs =>
    obtain ⟨dx, xs, e, h, nz, q⟩ := r
    refine ⟨dx, xs, e, h, fun z => (hw _ z).elim nz ?_, q.wk hw'⟩
    rintro ⟨C, dx', xs', h', hm⟩
    rw [h] at h'
    cases h'
    have h1 := q.none ho.1
    have h2 := q.none ho.2
    rw [h1, h2] at hm
    rcases hm with hm | hm <;> cases hm
  | _ => exact ho.elim
end
/-- what is lent: its owner does not hold it meanwhile -/
theorem Rls.lend {b : Bg} {Z : Addr → Prop} {H : Hp} (g : Gd b Z H) {vs : List V} {ds : List D} (r : Rls b Z H vs ds) : ∃ Zl : Addr → Prop, Gd b Zl H ∧ (∀ a, Zl a → Z a) ∧ Rps b Zl H vs ds ∧
    (∀ H' v d, Ex b H H' → hallO d → Rp b Zl H' v d → Rp b Z H' v d) ∧ ∀ H' c x er, Ex b H H' → ErRp b Zl H' c x er → ErRp b Z H' c x er := by
  let lent : Addr → Prop := fun c => ¬ b.B c ∧ ∃ n fs, hallF fs ∧ Ow b Z H c (.rob c n fs)
  let Zl : Addr → Prop := fun c => Z c ∧ ¬ lent c
  have sub : ∀ a, Zl a → Z a := fun a z => z.1
  have sub' : ∀ a, Zl a → Z a ∨ H a = none := fun a z => .inl z.1
  have hw : ∀ H', Ex b H H' → ∀ c, Z c → Zl c ∨ ∃ C dx xs, H' c = some (.ins C dx xs) ∧ ((xs.lookup ("scenes" : Str)).isSome = true ∨ (xs.lookup ("pairs" : Str)).isSome = true) := fun H' x c z => by
    by_cases h : lent c
    · obtain ⟨nb, n, fs, hm, _, dx, xs, e, q⟩ := h
      refine .inr ⟨_, dx, xs, x c _ e nb, ?_⟩
      rcases hm with hm | hm
      · left
        obtain ⟨y, ey⟩ := Option.isSome_iff_exists.mp hm
        obtain ⟨u, eu, _⟩ := q.look ey
        rw [eu]; rfl
      · right
        obtain ⟨y, ey⟩ := Option.isSome_iff_exists.mp hm
        obtain ⟨u, eu, _⟩ := q.look ey
        rw [eu]; rfl
    · exact .inl ⟨z, h⟩
  have hw' : ∀ H', Ex b H H' → ∀ c, Z c → Zl c ∨ ∃ C dx xs, H' c = some (.ins C dx xs) := fun H' x c z => (hw H' x c z).imp id fun ⟨C, dx, xs, e, _⟩ => ⟨C, dx, xs, e⟩
  refine ⟨Zl, ⟨g.g, fun a z => ⟨g.zb a z, fun h => h.1 z⟩, fun a z => g.dom a z.1⟩, sub, ?_, fun H' v d x ho r => r.wk (hw H' x) ho, fun H' c x er ex r => r.wk (hw' H' ex)⟩
  clear hw hw'
  induction r with
  | nil => exact .nil
  | cons r t ih =>
    refine .cons ?_ ih
    rcases r with r | ⟨a, n, fs, rfl, hm, rfl, nb, z, o⟩
    · exact r.mono sub' fun _ _ e _ => e
    · obtain ⟨_, dx, xs, e, q⟩ := id o
      exact ⟨dx, xs, rfl, e, fun z => z.2 ⟨nb, n, fs, hm, o⟩, q.mono sub' fun _ _ e _ => e⟩
/-! ### readings: values that may be lent; lists of arguments -/
def VQ (X : Cx) (b : Bg) (W : WX) (e : Expr) (t : VT) : Prop := PE X e (LE b W (fun Z _ H v d => Rl b Z H v d) t)
def LQ (b : Bg) (W : WX) (t : VA) : TA := fun σ H Q => ∃ Zo Z ρ Qd Ed, VOk b Zo Z σ H ρ ∧ t ρ Qd Ed ∧
  (∀ v H' d, Ex b H H' → b.G H' → Rls b Z H' v d → Qd d → Q v H') ∧ ∀ c x H' er, Ex b H H' → b.G H' → ErRp b Z H' c x er → Ed er → W c x σ H'
def VQs (X : Cx) (b : Bg) (W : WX) (es : List Expr) (t : VA) : Prop := PA X es (LQ b W t)
/-- a name that holds an object that changes -/
@[simp] def vObj (i : Nat) : VT := fun ρ Q _ => ∃ a n fs, (ρ[i]? = some (.own (.rob a n fs)) ∨ ρ[i]? = some (.shr (.rob a n fs))) ∧ hallF fs ∧ Q (.rob a n fs)
section
variable {X : Cx} {b : Bg} {W : WX} {e : Expr} {es : List Expr} {t : VT} {u : VA} {pos : Pos} {i : Nat}
theorem vq_obj (h : PE X e (tVar i)) : VQ X b W e (vObj i) := pe_mono h fun σ H Q ⟨Zo, Z, ρ, Qd, Ed, v, ⟨a, n, fs, hρ, hm, q⟩, l, m⟩ => by
  rcases hρ with hρ | hρ
  · obtain ⟨c, h1, h2, h3, h4⟩ := v.own i _ hρ
    obtain rfl : c = a := h4.1
    exact ⟨.ref c, h1, l _ H _ Ex.refl v.g (.inr ⟨c, n, fs, rfl, hm, rfl, fun z => h3 (v.zb _ z), h2, h4⟩) q⟩
  · obtain ⟨w, h1, h2⟩ := v.shr i _ hρ
    exact ⟨w, h1, l w H _ Ex.refl v.g (.inl h2) q⟩
theorem VAs.toQs (k : VAs X b W es u) : VQs X b W es u := pa_mono k fun σ H Q ⟨Zo, Z, ρ, Qd, Ed, v, q, l, m⟩ => ⟨Zo, Z, ρ, Qd, Ed, v, q, fun u H' d x g r => l u H' d x g r.toL, m⟩
end
/-! ### calls with lent arguments -/
@[simp] def vCallQ (S : SV) (u : VA) : VT := fun ρ Q E => u ρ (fun ds => S ds (fun d => hallO d ∧ Q d) E) E
section
variable {X : Cx} {b : Bg} {W : WX} {k j : Nat} {f : Addr} {fd : FuncData} {ps : List Str} {S : SV} {x m : Str} {e o : Expr} {es : List Expr} {u : VA} {t : VT} {p pos apos : Pos} {ns : List Str}
theorem lend_go {Z : Addr → Prop} {H : Hp} (g : Gd b Z H) {vs : List V} {ds : List D} (r : Rls b Z H vs ds) {Qd : D → Prop} {Ed : Er → Prop} {Q : VK} {E : XK} (q : S ds (fun d => hallO d ∧ Qd d) Ed)
    (l : ∀ v H' d, Ex b H H' → b.G H' → Rp b Z H' v d → Qd d → Q v H') (m : ∀ c x H' er, Ex b H H' → b.G H' → ErRp b Z H' c x er → Ed er → E c x H') : spV b S vs H Q E := by
  obtain ⟨Zl, gl, _, rl, back, backE⟩ := r.lend g
  exact ⟨Zl, ds, _, Ed, gl, rl, q, fun v H' d x1 g1 r1 ⟨ho, q1⟩ => l v H' d x1 g1 (back H' v d x1 ho r1) q1, fun c x H' er x1 g1 r1 q1 => m c x H' er x1 g1 (backE H' c x er x1 r1) q1⟩
end
/-- a method of some classes, by the class of the object -/
structure CalQ (P : Program) (w : World) (K : PySem.W.Frag) (mg : Str → Option Value) (base : Heap) (b : Bg) (k : Nat) (ns : List Str) (m : Str) (S : Str → SV) where
  at_ : ∀ n ∈ ns, ∃ f : Addr, FnR P w K mg base (L2.CX P w) k f (spV b (S n)) ∧ Cls K (b.cls n) ∧ Meth K (b.cls n) m f
@[simp] def vMethQ (ns : List Str) (m : Str) (S : Str → SV) (t : VT) (u : VA) : VT := fun ρ Q E => t ρ (fun d => ∃ a n fs, d = .rob a n fs ∧ n ∈ ns ∧ fs.lookup m = none ∧ u ρ (fun ds => S n (d :: ds) (fun d => hallO d ∧ Q d) E) E) E
/-- a property -/
structure CalP (P : Program) (w : World) (K : PySem.W.Frag) (mg : Str → Option Value) (base : Heap) (b : Bg) (k : Nat) (ns : List Str) (m : Str) (S : SV) where
  at_ : ∀ n ∈ ns, ∃ (p f : Addr) (fd : FuncData) (ps : List Str), FnOk P w K mg base (L2.CX P w) k f fd ps (spV b S) ∧ Cls K (b.cls n) ∧ PropOf K (b.cls n) m p f ∧ Binds K fd ps []
@[simp] def vProp (ns : List Str) (S : SV) (t : VT) : VT := fun ρ Q E => t ρ (fun d => ∃ a n fs, d = .rob a n fs ∧ n ∈ ns ∧ S [d] (fun d => hallO d ∧ Q d) (fun _ => False)) E
section
variable {X : Cx} {b : Bg} {W : WX} {k j : Nat} {m : Str} {S : Str → SV} {SP : SV} {e o : Expr} {es : List Expr} {u : VA} {t : VT} {p pos apos : Pos} {ns : List Str}
theorem getm_any {pl : Sem Bool} {es : List Expr} {ta : TE} {tr : V → Hp → TA} {σ0 : L2.St} (he : PE X o ta)
    (ht : eval (.Call (.Attribute o m apos) es [] pos) X.env = (do
      let ov ← eval o X.env
      standAt apos.atName
      let (f, first) ← holding [ov] (getMethod ov m pl)
      callWith pos f first (backTo pos (starEach es X.env)) (backToKw pos (keywordEach [] X.env)))) {T : TE}
    (hT : ∀ pins s σ H Q, Inv X pins σ H s → T σ H Q → ta σ H fun x H1 => ∃ a dx D fs f, x = V.ref a ∧ H1 a = some (.ins D dx fs) ∧ Cls X.K D ∧ Meth X.K D m f ∧ fs.lookup m = none ∧
      ∀ s1, Inv X pins σ H1 s1 → wpAny (model X.prog X.w) X.A (callWith pos (.ref f) [.ref a] (backTo pos (starEach es X.env)) (backToKw pos (keywordEach [] X.env))) (EP X pins σ Q) X.xe s1) : PE X (.Call (.Attribute o m apos) es [] pos) T := by
  refine ⟨fun pins s σ H Q I h => ?_⟩
  refine PySem.W.methodCall_KW (pl := pl) (thn (he.run pins s σ H _ I (hT pins s σ H Q I h)) fun u s1 ⟨x, H1, I1, rx, a, dx, D, fs, f, ex, ea, c, hm, l, q⟩ => ?_) ht
  subst ex
  obtain rfl : u = Value.ref a := rx
  exact getmeth_ok I1 ea c hm l (q s1 I1)
theorem ve_methQ {pl : Sem Bool} (c : CalQ X.prog X.w X.K X.mg X.base b k ns m S) (hr : Room j X.A) (tk : Takes X W) (ho : VQ X b W o t) (ha : VQs X b W (e :: es) u) (hk : k ≤ j := by decide)
    (hst : starEach (e :: es) X.env = (false, eval e X.env) :: starEach es X.env := by rfl) (hpl : (backTo pos (starEach es X.env)).any (·.1) = false := by rfl)
    (ht : eval (.Call (.Attribute o m apos) (e :: es) [] pos) X.env = (do
      let ov ← eval o X.env
      standAt apos.atName
      let (f, first) ← holding [ov] (getMethod ov m pl)
      callWith pos f first (backTo pos (starEach (e :: es) X.env)) (backToKw pos (keywordEach [] X.env))) := by rfl) : VE X b W (.Call (.Attribute o m apos) (e :: es) [] pos) (vMethQ ns m S t u) := by
  refine getm_any (pl := pl) (tr := fun _ _ => tNil) (σ0 := []) ho ht (fun pins s σ H Q I ⟨Zo, Z, ρ, Qd, Ed, v, q, l, mm⟩ => ⟨Zo, Z, ρ, _, Ed, v, q, fun x H1 d x1 g1 r1 ⟨a, n, fs, ed, hn, hf, q1⟩ => ?_, mm⟩)
  subst ed
  have v1 := v.ex x1 g1
  obtain ⟨dx, xs, rfl, hH, rq⟩ := r1.rb.rob
  obtain ⟨f, F, cl, me⟩ := c.at_ n hn
  refine ⟨a, dx, _, xs, f, rfl, hH, cl, me, rq.none hf, fun s1 I1 => ?_⟩
  refine PySem.W.callWith_K (first := [.ref a]) (h₀ := X.base) I1.ok.mod.kin me.kp (thn (ha.run pos pins s1 σ H1 (fun vs H2 => spV b (S n) (.ref a :: vs) H2 Q (WE W σ)) I1 ?_) fun us s2 ⟨vs, H2, I2, r, q2⟩ => ⟨I2.kIn, ?_⟩) hst hpl
  · refine ⟨Zo, Z, ρ, _, Ed, v1, q1, fun vs H2 ds x2 g2 r2 q2 => ?_, fun c z H2 er x2 g2 r2 q2 => mm c z H2 er (x1.trans x2) g2 r2 q2⟩
    have v2 := v1.ex x2 g2
    exact lend_go v2.gd (.cons (r1.mono (v1.keep x2) x2) r2) q2 (fun y H3 d x3 g3 r3 q3 => l y H3 d ((x1.trans x2).trans x3) g3 r3 q3) fun c z H3 er x3 g3 r3 q3 => mm c z H3 er ((x1.trans x2).trans x3) g3 r3 q3
  · exact run_fnRS (us := .ref a :: us) (vs := .ref a :: vs) F (hr.mono hk) (passAt tk σ) I2 (.cons rfl r) q2
theorem ve_methQ0 {pl : Sem Bool} (c : CalQ X.prog X.w X.K X.mg X.base b k ns m S) (hr : Room j X.A) (tk : Takes X W) (ho : VQ X b W o t) (hk : k ≤ j := by decide)
    (ht : eval (.Call (.Attribute o m apos) [] [] pos) X.env = (do
      let ov ← eval o X.env
      standAt apos.atName
      let (f, first) ← holding [ov] (getMethod ov m pl)
      callWith pos f first (backTo pos (starEach [] X.env)) (backToKw pos (keywordEach [] X.env))) := by rfl) : VE X b W (.Call (.Attribute o m apos) [] [] pos) (vMethQ ns m S t vNil) := by
  refine getm_any (pl := pl) (tr := fun _ _ => tNil) (σ0 := []) ho ht (fun pins s σ H Q I ⟨Zo, Z, ρ, Qd, Ed, v, q, l, mm⟩ => ⟨Zo, Z, ρ, _, Ed, v, q, fun x H1 d x1 g1 r1 ⟨a, n, fs, ed, hn, hf, q1⟩ => ?_, mm⟩)
  subst ed
  have v1 := v.ex x1 g1
  obtain ⟨dx, xs, rfl, hH, rq⟩ := r1.rb.rob
  obtain ⟨f, F, cl, me⟩ := c.at_ n hn
  refine ⟨a, dx, _, xs, f, rfl, hH, cl, me, rq.none hf, fun s1 I1 => ?_⟩
  refine PySem.W.callWith_K0 (first := [.ref a]) I1.kIn me.kp (run_fnRS (us := [.ref a]) (vs := [.ref a]) F (hr.mono hk) (passAt tk σ) I1 (.cons rfl .nil) ?_)
  exact lend_go v1.gd (.cons r1 .nil) q1 (fun y H3 d x3 g3 r3 q3 => l y H3 d (x1.trans x3) g3 r3 q3) fun c z H3 er x3 g3 r3 q3 => mm c z H3 er (x1.trans x3) g3 r3 q3
theorem ve_prop (c : CalP X.prog X.w X.K X.mg X.base b k ns m SP) (hr : Room j X.A) (ho : VQ X b W o t) (hk : k + 1 ≤ j := by decide) (hab : attributeBase o m X.env (eval o X.env) = eval o X.env := by rfl) : VE X b W (.Attribute o m pos) (vProp ns SP t) := by
  refine ⟨fun pins s σ H Q I ⟨Zo, Z, ρ, Qd, Ed, v, q, l, mm⟩ => ?_⟩
  refine attr_of hab (thn (ho.run pins s σ H (fun x H1 => ∃ a dx D fs p f fd ps, x = V.ref a ∧ H1 a = some (.ins D dx fs) ∧ Cls X.K D ∧ PropOf X.K D m p f ∧ FnOk X.prog X.w X.K X.mg X.base (L2.CX X.prog X.w) k f fd ps (spV b SP) ∧ Binds X.K fd ps [] ∧ spV b SP [.ref a] H1 Q (fun _ _ _ => False)) I ?_) fun u s1 ⟨x, H1, I1, rx, a, dx, D, fs, p, f, fd, ps, ex, ea, cl, hp, F, bd, q⟩ => ?_)
  · refine ⟨Zo, Z, ρ, _, Ed, v, q, fun x H1 d x1 g1 r1 ⟨a, n, fs, ed, hn, q1⟩ => ?_, mm⟩
    subst ed
    have v1 := v.ex x1 g1
    obtain ⟨dx, xs, rfl, hH, rq⟩ := r1.rb.rob
    obtain ⟨p, f, fd, ps, F, cl, hp, bd⟩ := c.at_ n hn
    exact ⟨a, dx, _, xs, p, f, fd, ps, rfl, hH, cl, hp, F, bd, lend_go v1.gd (.cons r1 .nil) q1 (fun y H3 d x3 g3 r3 q3 => l y H3 d (x1.trans x3) g3 r3 q3) fun c z H3 er x3 g3 r3 q3 => q3⟩
  · subst ex
    obtain rfl : u = Value.ref a := rx
    exact getprop_ok I1 ea cl hp F (hr.mono hk) bd .nil (fun _ _ _ _ _ _ _ c => by obtain ⟨_, _, _, _, _, _, _, _, _, _, _, _, h⟩ := c; exact h.elim) q
end
end VL
set_option Elab.async false
set_option linter.all false
set_option maxRecDepth 100000
set_option maxHeartbeats 4000000
/-! VL125: defs that change an object handed to them; expressions that do -/
namespace VL
open PySem PySem.Spec PyProof.Rows L2 StX
abbrev FS := List (Str × FV)
/-- x n fs: the object, ds1 ds2: the arguments ahead of it and behind it -/
abbrev SM := Addr → Str → FS → List D → List D → (D → FS → Prop) → (Er → FS → Prop) → Prop
abbrev Zx (Z : Addr → Prop) (x : Addr) : Addr → Prop := fun c => Z c ∨ c = x
def spM (b : Bg) (S : SM) : Sp := fun vs H Q E => ∃ (x : Addr) (n : Str) (fs : FS) (vs1 vs2 : List V) (Z : Addr → Prop) (ds1 ds2 : List D) (Qd : D → FS → Prop) (Ed : Er → FS → Prop), vs = vs1 ++ .ref x :: vs2 ∧ Gd b Z H ∧ ¬ Z x ∧ Ow b (Zx Z x) H x (.rob x n fs) ∧
  Rps b (Zx Z x) H vs1 ds1 ∧ Rps b (Zx Z x) H vs2 ds2 ∧ S x n fs ds1 ds2 Qd Ed ∧
  (∀ v H' d fs', (∀ a o, H a = some o → ¬ b.B a → a ≠ x → H' a = some o) → b.G H' → Ow b (Zx Z x) H' x (.rob x n fs') → Rp b (Zx Z x) H' v d → Qd d fs' → Q v H') ∧
  ∀ c d H' er fs', (∀ a o, H a = some o → ¬ b.B a → a ≠ x → H' a = some o) → b.G H' → Ow b (Zx Z x) H' x (.rob x n fs') → ErRp b (Zx Z x) H' c d er → Ed er fs' → E c d H'
@[simp] def envM (x : Addr) (n : Str) (fs : FS) (N : Nat) (ds1 ds2 : List D) : VEnv := ds1.map Slot.shr ++ .own (.rob x n fs) :: (ds2.map Slot.shr ++ List.replicate (N - (ds1.length + 1 + ds2.length)) .un)
@[simp] def finM (x : Addr) (n : Str) (j : Nat) (Q : D → FS → Prop) (E : Er → FS → Prop) : VEnds where
  nx := fun ρ => ∃ fs, ρ[j]? = some (.own (.rob x n fs)) ∧ Q (.py .none) fs
  rt := fun _ => False
  bk := fun _ => False
  ct := fun _ => False
  ex := fun ρ er => ∃ fs, ρ[j]? = some (.own (.rob x n fs)) ∧ E er fs
  ro := fun ρ r => ∃ d fs, r = .val d ∧ ρ[j]? = some (.own (.rob x n fs)) ∧ Q d fs
theorem envM_at {x : Addr} {n : Str} {fs : FS} {N i : Nat} {ds1 ds2 : List D} {s : Slot} (h : (envM x n fs N ds1 ds2)[i]? = some s) : s = .un ∨ (∃ d, s = .shr d ∧ ds1[i]? = some d) ∨ (i = ds1.length ∧ s = .own (.rob x n fs)) ∨ ∃ d j, s = .shr d ∧ i = ds1.length + 1 + j ∧ ds2[j]? = some d := by
  unfold envM at h
  by_cases h1 : i < ds1.length
  · rw [List.getElem?_append_left (by simpa using h1), List.getElem?_map] at h
    cases e : ds1[i]? with
    | none => rw [e] at h; cases h
    | some d => rw [e] at h; cases h; exact .inr (.inl ⟨d, rfl, rfl⟩)
  · rw [List.getElem?_append_right (by simpa using h1)] at h
    rw [List.length_map] at h
    by_cases h2 : i - ds1.length = 0
    · rw [h2, List.getElem?_cons_zero] at h
      cases h
      exact .inr (.inr (.inl ⟨by omega, rfl⟩))
    · obtain ⟨j, hj⟩ : ∃ j, i - ds1.length = j + 1 := ⟨i - ds1.length - 1, by omega⟩
      rw [hj, List.getElem?_cons_succ] at h
      by_cases h3 : j < ds2.length
      · rw [List.getElem?_append_left (by simpa using h3), List.getElem?_map] at h
        cases e : ds2[j]? with
        | none => rw [e] at h; cases h
        | some d => rw [e] at h; cases h; exact .inr (.inr (.inr ⟨d, j, rfl, by omega, e⟩))
      · rw [List.getElem?_append_right (by simpa using h3), List.getElem?_replicate] at h
        split at h
        · cases h; exact .inl rfl
        · cases h
theorem VOk.entryM {b : Bg} {Z : Addr → Prop} {H : Hp} {N : List Str} {vs1 vs2 : List V} {ds1 ds2 : List D} {x : Addr} {n : Str} {fs : FS} (g : Gd b Z H) (nz : ¬ Z x) (o : Ow b (Zx Z x) H x (.rob x n fs)) (r1 : Rps b (Zx Z x) H vs1 ds1) (r2 : Rps b (Zx Z x) H vs2 ds2)
    (hl : vs1.length + 1 + vs2.length ≤ N.length) : VOk b Z (Zx Z x) (L2.start N (vs1 ++ .ref x :: vs2)) H (envM x n fs N.length ds1 ds2) := by
  have l1 := r1.length
  have l2 := r2.length
  have σx : (L2.start N (vs1 ++ V.ref x :: vs2))[ds1.length]? = some (some (.ref x)) := by
    unfold L2.start
    rw [List.getElem?_append_left (by simp; omega), List.getElem?_map, List.getElem?_append_right (by omega), ← l1]
    simp
  have ρx : (envM x n fs N.length ds1 ds2)[ds1.length]? = some (.own (.rob x n fs)) := by
    unfold envM
    rw [List.getElem?_append_right (by simp)]
    simp
  have only : ∀ (i : Nat) (d : D), (envM x n fs N.length ds1 ds2)[i]? = some (.own d) → i = ds1.length ∧ d = .rob x n fs := fun i d e => by
    rcases envM_at e with h | ⟨_, h, _⟩ | ⟨h1, h2⟩ | ⟨_, _, h, _⟩
    · cases h
    · cases h
    · cases h2; exact ⟨h1, rfl⟩
    · cases h
  obtain ⟨_, dx, xs, hx, _⟩ := id o
  refine ⟨g.g, g.zb, fun _ z => .inl z, fun a z => z.elim (g.dom a) fun e => by rw [e, hx]; simp, fun a z => z.imp id fun e => ⟨_, _, ρx, by rw [e]; exact σx⟩, fun i d e => ?_, fun i j d e a h1 h2 _ _ => ?_, fun i d e => ?_, ?_⟩
  · obtain ⟨rfl, rfl⟩ := only i d e
    exact ⟨x, σx, .inr rfl, nz, o⟩
  · rw [(only i d h1).1, (only j e h2).1]
  · rcases envM_at e with h | ⟨d', h, hd⟩ | ⟨_, h⟩ | ⟨d', j, h, hj, hd⟩
    · cases h
    · cases h
      obtain ⟨v, hv, rv⟩ := r1.at hd
      refine ⟨v, ?_, rv⟩
      have hi : i < vs1.length := (List.getElem?_eq_some_iff.mp hv).1
      unfold L2.start
      rw [List.getElem?_append_left (by simp; omega), List.getElem?_map, List.getElem?_append_left hi, hv]
      rfl
    · cases h
    · cases h
      obtain ⟨v, hv, rv⟩ := r2.at hd
      refine ⟨v, ?_, rv⟩
      have hi : j < vs2.length := (List.getElem?_eq_some_iff.mp hv).1
      unfold L2.start
      rw [List.getElem?_append_left (by simp; omega), List.getElem?_map, List.getElem?_append_right (by omega), show i - vs1.length = j + 1 by omega, List.getElem?_cons_succ, hv]
      rfl
  · unfold envM L2.start
    simp only [List.length_append, List.length_cons, List.length_map, List.length_replicate, ← l1, ← l2]
    omega
section
variable {P : Program} {w : World} {K : PySem.W.Frag} {mg : Str → Option Value} {base : Heap} {b : Bg} {k : Nat} {x qual : Str} {st : Stmt} {f : Addr} {fd : FuncData} {N ps : List Str} {S : SM}
theorem fin_linkM {t : VS} {H : Hp} {vs : List V} {Q : VK} {E : XK} (hlaw : ∀ x n fs ds1 ds2 Q E, S x n fs ds1 ds2 Q E → t (envM x n fs N.length ds1 ds2) (finM x n ds1.length Q E)) (hl : vs.length ≤ N.length) (h : spM b S vs H Q E) :
    LS b (WF E) t { nx := fun _ H' => Q .non H', rt := Q } (L2.start N vs) H := by
  obtain ⟨x, n, fs, vs1, vs2, Z, ds1, ds2, Qd, Ed, rfl, g, nz, ow, r1, r2, s, l, m⟩ := h
  have vo := VOk.entryM g nz ow r1 r2 (N := N) (by simp at hl; omega)
  have hsub : ∀ {Z' σ' H' ρ'}, FOk b H (fun c => c = x) Z Z' σ' H' ρ' → ∀ {fs'}, ρ'[ds1.length]? = some (.own (.rob x n fs')) → (∀ c, Zx Z x c → Z' c) ∧ Ow b (Zx Z x) H' x (.rob x n fs') := fun {Z' σ' H' ρ'} f' {fs'} e => by
    obtain ⟨a, h1, h2, h3, h4⟩ := f'.v.own _ _ e
    have ea : a = x := h4.1
    rw [ea] at h2 h4
    have hs : ∀ c, Zx Z x c → Z' c := fun c z => z.elim (f'.v.zo c) fun q => by rw [q]; exact h2
    exact ⟨hs, h4.mono (fun c z => .inl (hs c z)) (fun _ _ e _ => e) fun _ e => e⟩
  refine ⟨H, fun c => c = x, Z, _, _, finM x n ds1.length Qd Ed, ⟨vo, fun _ _ e _ _ => e, fun i d a e h2 => ?_⟩, hlaw x n fs ds1 ds2 Qd Ed s, ⟨fun Z' σ' H' ρ' f' ⟨fs', e, q⟩ => ?_, fun _ _ _ _ _ _ q => q.elim, fun _ _ _ _ _ q => q.elim, fun _ _ _ _ _ q => q.elim, fun c y Z' σ' H' ρ' er f' r' ⟨fs', e, q⟩ => ?_, fun v Z' σ' H' ρ' r f' k' ⟨d, fs', er, e, q⟩ => ?_⟩⟩
  · left
    obtain ⟨c, h3, h4, h5, h6⟩ := vo.own i d e
    rw [h2] at h3
    cases h3
    rcases envM_at e with h | ⟨_, h, _⟩ | ⟨_, h⟩ | ⟨_, _, h, _⟩
    · cases h
    · cases h
    · cases h; exact h6.1
    · cases h
  · exact l .non H' (.py .none) fs' f'.ext f'.v.g (hsub f' e).2 Rq.non q
  · refine m c y H' er fs' f'.ext f'.v.g (hsub f' e).2 ?_ q
    obtain ⟨h1, h2⟩ := r'
    refine ⟨h1, h2.imp id ?_⟩
    rintro ⟨a, xs, e1, e2, e3, e4⟩
    exact ⟨a, xs, e1, e2, fun z => e3 ((hsub f' e).1 a z), e4.mono (fun c z => .inl ((hsub f' e).1 c z)) fun _ _ e _ => e⟩
  · subst er
    exact l v H' d fs' f'.ext f'.v.g (hsub f' e).2 (Rp.mono (fun c z => .inl ((hsub f' e).1 c z)) (fun _ _ e _ => e) k') q
/-- a def of the text that changes an object -/
theorem fnM (F : Fun K x qual st f fd) (Sc : FnScope N ps (defScope st)) {t : VS} (hlen : ∀ x n fs ds1 ds2 Q E, S x n fs ds1 ds2 Q E → ds1.length + 1 + ds2.length = ps.length) (hps : ps.length ≤ N.length)
    (hbody : ∀ (cdv : Value) (A : Around) (outer : List Env) (s : Shared) (H : Hp) (E : XK), Room k (A.deeper (envOfC qual (defScope st) s.heap.objs.size f cdv)) →
      Takes (cxOf (L2.CX P w) P w K mg base N qual (defScope st) f cdv A outer s H E) (WF E) → VSs (cxOf (L2.CX P w) P w K mg base N qual (defScope st) f cdv A outer s H E) b (WF E) (defBody st) t)
    (hlaw : ∀ x n fs ds1 ds2 Q E, S x n fs ds1 ds2 Q E → t (envM x n fs N.length ds1 ds2) (finM x n ds1.length Q E)) : FnOk P w K mg base (L2.CX P w) (k + 1) f fd ps (spM b S) := by
  have len : ∀ vs H Q E, spM b S vs H Q E → vs.length = ps.length := fun vs H Q E ⟨x, n, fs, vs1, vs2, Z, ds1, ds2, Qd, Ed, e, _, _, _, r1, r2, s, _⟩ => by
    rw [e, List.length_append, List.length_cons, r1.length, r2.length]
    have := hlen _ _ _ _ _ _ _ s
    omega
  refine F.okX Sc len fun cdv A outer s H vs Q E hr h => ⟨_, hbody cdv A outer s H E hr (takes_of rfl rfl rfl rfl), fin_linkM hlaw (Nat.le_trans (Nat.le_of_eq (len _ _ _ _ h)) hps) h⟩
end
/-! ### an own object changed by a call -/
section
variable {b : Bg} {W : WX} {H0 : Hp} {M Zo Z : Addr → Prop} {σ : L2.St} {H H' : Hp} {ρ : VEnv} {De : VEnds} {Dn : Ends}
theorem FOk.mutX (f : FOk b H0 M Zo Z σ H ρ) {i : Nat} {a : Addr} {d d' : D} (hr : ρ[i]? = some (.own d)) (hs : σ[i]? = some (some (.ref a))) (ext : ∀ c o, H c = some o → ¬ b.B c → c ≠ a → H' c = some o) (g : b.G H') (new : Ow b Z H' a d') : FOk b H0 M Zo Z σ H' (ρ.set i (.own d')) := by
  have v := f.v
  obtain ⟨c, h1, hz, hzo, how⟩ := v.own i d hr
  rw [hs] at h1; cases h1
  have hi : i < ρ.length := (List.getElem?_eq_some_iff.mp hr).1
  have keep : ∀ c o', H c = some o' → ¬ Z c → H' c = some o' := fun c o' e n => ext c o' e (fun z => n (v.zo _ (v.zb _ z))) fun q => n (by rw [q]; exact hz)
  have ow : ∀ {j : Nat} {e : D}, (ρ.set i (.own d'))[j]? = some (.own e) → (j = i ∧ e = d') ∨ (j ≠ i ∧ ρ[j]? = some (.own e)) := fun {j e} h => by
    by_cases hj : j = i
    · subst hj
      rw [List.getElem?_set_self hi] at h; cases h; exact .inl ⟨rfl, rfl⟩
    · rw [List.getElem?_set_ne (Ne.symm hj)] at h
      exact .inr ⟨hj, h⟩
  have old : ∀ {j : Nat} {e : D}, (ρ.set i (.own d'))[j]? = some (.own e) → ∃ e', ρ[j]? = some (.own e') := fun {j e} h => by
    rcases ow h with ⟨rfl, rfl⟩ | ⟨_, h⟩
    · exact ⟨d, hr⟩
    · exact ⟨e, h⟩
  refine ⟨⟨g, v.zb, v.zo, fun c z => ?_, fun c z => ?_, fun j e h => ?_, fun j k e e2 c h1 h2 h3 h4 => ?_, fun j e h => ?_, by simpa using v.len⟩, fun c o' e nb' nm => ?_, fun j e c h1 h2 => ?_⟩
  · by_cases hb : b.B c
    · exact b.dom H' c g hb
    · by_cases q : c = a
      · obtain ⟨o, e⟩ := new.at
        rw [q, e]; simp
      · cases e : H c with
        | none => exact absurd e (v.dom c z)
        | some o => rw [ext c o e hb q]; simp
  · rcases v.zi c z with z | ⟨j, e, h1, h2⟩
    · exact .inl z
    · by_cases hj : j = i
      · subst hj
        exact .inr ⟨j, d', List.getElem?_set_self hi, h2⟩
      · exact .inr ⟨j, e, by rw [List.getElem?_set_ne (Ne.symm hj)]; exact h1, h2⟩
  · rcases ow h with ⟨rfl, rfl⟩ | ⟨hj, h⟩
    · exact ⟨a, hs, hz, hzo, new⟩
    · obtain ⟨c, h1, h2, h3, h4⟩ := v.own j e h
      have hca : c ≠ a := fun q => hj (v.inj j i e d a h hr (by rw [← q]; exact h1) hs)
      exact ⟨c, h1, h2, h3, h4.mono (fun _ z => .inl z) keep fun o' q => ext c o' q (fun z => h3 (v.zb _ z)) hca⟩
  · obtain ⟨e', h1⟩ := old h1
    obtain ⟨e2', h2⟩ := old h2
    exact v.inj j k e' e2' c h1 h2 h3 h4
  · by_cases hj : j = i
    · subst hj
      rw [List.getElem?_set_self hi] at h; cases h
    · rw [List.getElem?_set_ne (Ne.symm hj)] at h
      obtain ⟨w, h1, h2⟩ := v.shr j e h
      exact ⟨w, h1, h2.mono (fun _ z => .inl z) keep⟩
  · have h := f.ext c o' e nb' nm
    by_cases q : c = a
    · subst q
      rcases f.fr i d c hr hs with z | z
      · exact absurd z nm
      · rw [z] at e; cases e
    · exact ext c o' h nb' q
  · obtain ⟨e', h1⟩ := old h1
    exact f.fr j e' c h1 h2
end
/-! ### expressions that change own objects -/
abbrev VTM := VEnv → (D → VEnv → Prop) → (Er → VEnv → Prop) → Prop
abbrev KeepZ (Z : Addr → Prop) (H H' : Hp) : Prop := ∀ a o, H a = some o → ¬ Z a → H' a = some o
def LM (b : Bg) (W : WX) (t : VTM) : TE := fun σ H Q => ∃ H0 M Zo Z ρ Qd Ed, FOk b H0 M Zo Z σ H ρ ∧ t ρ Qd Ed ∧
  (∀ v H' d ρ', KeepZ Z H H' → FOk b H0 M Zo Z σ H' ρ' → Rp b Z H' v d → Qd d ρ' → Q v H') ∧
  ∀ c x H' er ρ', FOk b H0 M Zo Z σ H' ρ' → ErRp b Z H' c x er → Ed er ρ' → W c x σ H'
def VM (X : Cx) (b : Bg) (W : WX) (e : Expr) (t : VTM) : Prop := PE X e (LM b W t)
@[simp] def mPure (t : VT) : VTM := fun ρ Q E => t ρ (fun d => Q d ρ) (fun er => E er ρ)
/-- arguments, one of them an own object that the call may change -/
abbrev VA1 := VEnv → (Nat → List D → Addr → Str → FS → List D → Prop) → (Er → Prop) → Prop
def LA1 (b : Bg) (W : WX) (t : VA1) : TA := fun σ H Q => ∃ Zo Z ρ Qd Ed, VOk b Zo Z σ H ρ ∧ t ρ Qd Ed ∧
  (∀ vs1 vs2 H' i ds1 x n fs ds2, Ex b H H' → b.G H' → ρ[i]? = some (.own (.rob x n fs)) → σ[i]? = some (some (.ref x)) → Rps b Z H' vs1 ds1 → Rps b Z H' vs2 ds2 → Qd i ds1 x n fs ds2 → Q (vs1 ++ .ref x :: vs2) H') ∧
  ∀ c x H' er, Ex b H H' → b.G H' → ErRp b Z H' c x er → Ed er → W c x σ H'
def VA1s (X : Cx) (b : Bg) (W : WX) (es : List Expr) (t : VA1) : Prop := PA X es (LA1 b W t)
@[simp] def aOwn (i : Nat) (u : VA) : VA1 := fun ρ Q E => ∃ x n fs, ρ[i]? = some (.own (.rob x n fs)) ∧ u ρ (fun ds => Q i [] x n fs ds) E
@[simp] def aPre (t : VT) (a : VA1) : VA1 := fun ρ Q E => t ρ (fun d => a ρ (fun i ds1 x n fs ds2 => Q i (d :: ds1) x n fs ds2) E) E
@[simp] def mCall (S : SM) (a : VA1) : VTM := fun ρ Q E => a ρ (fun i ds1 x n fs ds2 => S x n fs ds1 ds2 (fun d fs' => Q d (ρ.set i (.own (.rob x n fs')))) (fun er fs' => E er (ρ.set i (.own (.rob x n fs'))))) (fun er => E er ρ)
@[simp] def mMeth (ns : List Str) (m : Str) (S : Str → SM) (i : Nat) (u : VA) : VTM := fun ρ Q E => ∃ x n fs, ρ[i]? = some (.own (.rob x n fs)) ∧ n ∈ ns ∧ fs.lookup m = none ∧
  u ρ (fun ds => S n x n fs [] ds (fun d fs' => Q d (ρ.set i (.own (.rob x n fs')))) (fun er fs' => E er (ρ.set i (.own (.rob x n fs'))))) (fun er => E er ρ)
/-- a def, a method that changes an object -/
structure CalF (P : Program) (w : World) (K : PySem.W.Frag) (mg : Str → Option Value) (base : Heap) (b : Bg) (k : Nat) (x : Str) (ps : List Str) (S : SM) where
  f : Addr
  fd : FuncData
  F : FnOk P w K mg base (L2.CX P w) k f fd ps (spM b S)
  g : mg x = some (.ref f)
  kp : PySem.W.keepIn K (.ref f) = true
  bd : Binds K fd ps []
structure CalX (P : Program) (w : World) (K : PySem.W.Frag) (mg : Str → Option Value) (base : Heap) (b : Bg) (k : Nat) (ns : List Str) (m : Str) (S : Str → SM) where
  at_ : ∀ n ∈ ns, ∃ f : Addr, FnR P w K mg base (L2.CX P w) k f (spM b (S n)) ∧ Cls K (b.cls n) ∧ Meth K (b.cls n) m f
section
variable {X : Cx} {b : Bg} {W : WX} {k j : Nat} {ps : List Str} {S : SM} {SN : Str → SM} {x m : Str} {e o : Expr} {es : List Expr} {u : VA} {a : VA1} {t : VT} {p pos apos : Pos} {ns : List Str} {i : Nat}
theorem va1_own (h : PE X e (tVar i)) (k : VAs X b W es u) (hs : starEach (e :: es) X.env = (false, eval e X.env) :: starEach es X.env := by rfl) : VA1s X b W (e :: es) (aOwn i u) :=
  pa_mono (pa_cons h k hs) fun σ H Q ⟨Zo, Z, ρ, Qd, Ed, v, ⟨x, n, fs, e, q⟩, l, m⟩ => by
    obtain ⟨c, h1, h2, h3, h4⟩ := v.own i _ e
    obtain rfl : c = x := h4.1
    exact ⟨.ref c, h1, Zo, Z, ρ, _, Ed, v, q, fun vs H1 ds x1 g1 r1 q1 => l [] vs H1 i [] c n fs ds x1 g1 e h1 .nil r1 q1, m⟩
/-- the call itself -/
theorem callM_go {H0 : Hp} {M Zo Z : Addr → Prop} {σ : L2.St} {H : Hp} {ρ : VEnv} (f : FOk b H0 M Zo Z σ H ρ) {i : Nat} {x : Addr} {n : Str} {fs : FS} (e1 : ρ[i]? = some (.own (.rob x n fs))) (e2 : σ[i]? = some (some (.ref x))) {vs1 vs2 : List V} {ds1 ds2 : List D}
    (r1 : Rps b Z H vs1 ds1) (r2 : Rps b Z H vs2 ds2) {Qd : D → VEnv → Prop} {Ed : Er → VEnv → Prop} {Q : VK} {E : XK}
    (q : S x n fs ds1 ds2 (fun d fs' => Qd d (ρ.set i (.own (.rob x n fs')))) (fun er fs' => Ed er (ρ.set i (.own (.rob x n fs')))))
    (l : ∀ v H' d ρ', KeepZ Z H H' → FOk b H0 M Zo Z σ H' ρ' → Rp b Z H' v d → Qd d ρ' → Q v H') (m : ∀ c y H' er ρ', FOk b H0 M Zo Z σ H' ρ' → ErRp b Z H' c y er → Ed er ρ' → E c y H') : spM b S (vs1 ++ .ref x :: vs2) H Q E := by
  have v := f.v
  obtain ⟨c, h1, hz, hzo, how⟩ := v.own i _ e1
  rw [e2] at h1; cases h1
  let Zc : Addr → Prop := fun c => Z c ∧ c ≠ x
  have up1 : ∀ c, Zx Zc x c → Z c := fun c z => z.elim (fun z => z.1) fun q => by rw [q]; exact hz
  have up2 : ∀ c, Z c → Zx Zc x c := fun c z => by
    by_cases q : c = x
    · exact .inr q
    · exact .inl ⟨z, q⟩
  have dn : ∀ {H' : Hp} c, Zx Zc x c → Z c ∨ H' c = none := fun c z => .inl (up1 c z)
  have un : ∀ {H' : Hp} c, Z c → Zx Zc x c ∨ H' c = none := fun c z => .inl (up2 c z)
  have kp : ∀ {H' : Hp}, (∀ a o, H a = some o → ¬ b.B a → a ≠ x → H' a = some o) → KeepZ Z H H' := fun ext a o e nz => ext a o e (fun z => nz (v.zo _ (v.zb _ z))) fun q => nz (by rw [q]; exact hz)
  refine ⟨x, n, fs, vs1, vs2, Zc, ds1, ds2, _, _, rfl, ⟨v.g, fun a z => ⟨v.zo _ (v.zb _ z), fun q => hzo (by rw [← q]; exact v.zb a z)⟩, fun a z => v.dom a z.1⟩, fun z => z.2 rfl, how.mono dn (fun _ _ e _ => e) fun _ e => e,
    r1.mono dn (fun _ _ e _ => e), r2.mono dn (fun _ _ e _ => e), q, fun v' H' d fs' ext g ow r q' => ?_, fun c d H' er fs' ext g ow r q' => ?_⟩
  · have f' := f.mutX (d' := .rob x n fs') e1 e2 ext g (ow.mono un (fun _ _ e _ => e) fun _ e => e)
    exact l v' H' d _ (kp ext) f' (r.mono un fun _ _ e _ => e) q'
  · have f' := f.mutX (d' := .rob x n fs') e1 e2 ext g (ow.mono un (fun _ _ e _ => e) fun _ e => e)
    refine m c d H' er _ f' ?_ q'
    obtain ⟨k1, k2⟩ := r
    refine ⟨k1, k2.imp id ?_⟩
    rintro ⟨a, xs, z1, z2, z3, z4⟩
    exact ⟨a, xs, z1, z2, fun z => z3 (up2 a z), z4.mono un fun _ _ e _ => e⟩
theorem vm_call (c : CalF X.prog X.w X.K X.mg X.base b k x ps S) (hr : Room j X.A) (tk : Takes X W) (hg : Gl X x) (ha : VA1s X b W (e :: es) a) (hk : k ≤ j := by decide)
    (hdb : (x == ("__debug__" : Str)) = false := by decide) (he : starEach (e :: es) X.env = (false, eval e X.env) :: starEach es X.env := by rfl) (hpl : (backTo pos (starEach es X.env)).any (·.1) = false := by rfl) :
    VM X b W (.Call (.Name x p) (e :: es) [] pos) (mCall S a) :=
  pe_mono (pe_callS c.F (hr.mono hk) hg c.g c.kp c.bd (passAt tk) ha hdb he hpl) fun σ H Q ⟨H0, M, Zo, Z, ρ, Qd, Ed, f, q, l, m⟩ => ⟨Zo, Z, ρ, _, _, f.v, q, fun vs1 vs2 H1 i ds1 x n fs ds2 x1 g1 e1 e2 r1 r2 q1 =>
    callM_go (f.ex x1 g1) e1 e2 r1 r2 q1 (fun v H' d ρ' k' f' r q' => l v H' d ρ' (fun a o e nz => k' a o (f.v.keep x1 a o e nz) nz) f' r q') m, fun c y H1 er x1 g1 r1 q1 => m c y H1 er ρ (f.ex x1 g1) r1 q1⟩
theorem vm_meth {pl : Sem Bool} (c : CalX X.prog X.w X.K X.mg X.base b k ns m SN) (hr : Room j X.A) (tk : Takes X W) (ho : PE X o (tVar i)) (ha : VAs X b W (e :: es) u) (hk : k ≤ j := by decide)
    (hst : starEach (e :: es) X.env = (false, eval e X.env) :: starEach es X.env := by rfl) (hpl : (backTo pos (starEach es X.env)).any (·.1) = false := by rfl)
    (ht : eval (.Call (.Attribute o m apos) (e :: es) [] pos) X.env = (do
      let ov ← eval o X.env
      standAt apos.atName
      let (f, first) ← holding [ov] (getMethod ov m pl)
      callWith pos f first (backTo pos (starEach (e :: es) X.env)) (backToKw pos (keywordEach [] X.env))) := by rfl) : VM X b W (.Call (.Attribute o m apos) (e :: es) [] pos) (mMeth ns m SN i u) := by
  refine getm_any (pl := pl) (tr := fun _ _ => tNil) (σ0 := []) ho ht (fun pins s σ H Q I ⟨H0, M, Zo, Z, ρ, Qd, Ed, f, ⟨x, n, fs, e1, hn, hf, q⟩, l, mm⟩ => ?_)
  have v := f.v
  obtain ⟨cc, h1, hz, hzo, how⟩ := v.own i _ e1
  obtain ⟨rfl, dx, xs, hH, rq⟩ := id how
  obtain ⟨fa, F, cl, me⟩ := c.at_ n hn
  refine ⟨.ref cc, h1, cc, dx, _, xs, fa, rfl, hH, cl, me, rq.none hf, fun s1 I1 => ?_⟩
  refine PySem.W.callWith_K (first := [.ref cc]) (h₀ := X.base) I1.ok.mod.kin me.kp (thn (ha.run pos pins s1 σ H (fun vs H2 => spM b (SN n) (.ref cc :: vs) H2 Q (WE W σ)) I1 ?_) fun us s2 ⟨vs, H2, I2, r, q2⟩ => ⟨I2.kIn, ?_⟩) hst hpl
  · refine ⟨Zo, Z, ρ, _, _, v, q, fun vs H2 ds x2 g2 r2 q2 => ?_, fun c z H2 er x2 g2 r2 q2 => mm c z H2 er ρ (f.ex x2 g2) r2 q2⟩
    exact callM_go (vs1 := []) (ds1 := []) (f.ex x2 g2) e1 h1 .nil r2 q2 (fun v' H' d ρ' k' f' r q' => l v' H' d ρ' (fun a o e nz => k' a o (v.keep x2 a o e nz) nz) f' r q') mm
  · exact run_fnRS (us := .ref cc :: us) (vs := .ref cc :: vs) F (hr.mono hk) (passAt tk σ) I2 (.cons rfl r) q2
theorem vm_meth0 {pl : Sem Bool} (c : CalX X.prog X.w X.K X.mg X.base b k ns m SN) (hr : Room j X.A) (tk : Takes X W) (ho : PE X o (tVar i)) (hk : k ≤ j := by decide)
    (ht : eval (.Call (.Attribute o m apos) [] [] pos) X.env = (do
      let ov ← eval o X.env
      standAt apos.atName
      let (f, first) ← holding [ov] (getMethod ov m pl)
      callWith pos f first (backTo pos (starEach [] X.env)) (backToKw pos (keywordEach [] X.env))) := by rfl) : VM X b W (.Call (.Attribute o m apos) [] [] pos) (mMeth ns m SN i vNil) := by
  refine getm_any (pl := pl) (tr := fun _ _ => tNil) (σ0 := []) ho ht (fun pins s σ H Q I ⟨H0, M, Zo, Z, ρ, Qd, Ed, f, ⟨x, n, fs, e1, hn, hf, q⟩, l, mm⟩ => ?_)
  have v := f.v
  obtain ⟨cc, h1, hz, hzo, how⟩ := v.own i _ e1
  obtain ⟨rfl, dx, xs, hH, rq⟩ := id how
  obtain ⟨fa, F, cl, me⟩ := c.at_ n hn
  refine ⟨.ref cc, h1, cc, dx, _, xs, fa, rfl, hH, cl, me, rq.none hf, fun s1 I1 => ?_⟩
  refine PySem.W.callWith_K0 (first := [.ref cc]) I1.kIn me.kp (run_fnRS (us := [.ref cc]) (vs := [.ref cc]) F (hr.mono hk) (passAt tk σ) I1 (.cons rfl .nil) ?_)
  exact callM_go (vs1 := []) (ds1 := []) f e1 h1 .nil .nil q l mm
end
end VL
set_option Elab.async false
set_option linter.all false
set_option maxRecDepth 100000
set_option maxHeartbeats 4000000
/-! VL126: statements around expressions that change own objects; new objects given back -/
namespace VL
open PySem PySem.Spec PyProof.Rows L2 StX
/-! ### lists of such expressions -/
abbrev VAM := VEnv → (List D → VEnv → Prop) → (Er → VEnv → Prop) → Prop
@[simp] def cmNil : VAM := fun ρ Q _ => Q [] ρ
@[simp] def cmCons (t : VTM) (u : VAM) : VAM := fun ρ Q E => t ρ (fun d ρ1 => u ρ1 (fun ds ρ2 => Q (d :: ds) ρ2) E) E
@[simp] def mLst (u : VAM) : VTM := fun ρ Q E => u ρ (fun ds ρ' => ∃ ps, pys ds = some ps ∧ ps.length ≤ sizeLine ∧ Q (.py (.list ps)) ρ') E
@[simp] def mTup (u : VAM) : VTM := fun ρ Q E => u ρ (fun ds ρ' => ∃ ps, pys ds = some ps ∧ ps.length ≤ sizeLine ∧ Q (.py (.tuple ps)) ρ') E
@[simp] def mIf (c : VB) (t u : VTM) : VTM := fun ρ Q E => c ρ (fun k => if k = true then t ρ Q E else u ρ Q E) (fun er => E er ρ)
/-- a test that changes own objects -/
abbrev VBM := VEnv → (Bool → VEnv → Prop) → (Er → VEnv → Prop) → Prop
@[simp] def bPure (t : VB) : VBM := fun ρ Q E => t ρ (fun k => Q k ρ) (fun er => E er ρ)
@[simp] def bVal (t : VTM) : VBM := fun ρ Q E => t ρ (fun d ρ' => ∃ k, d = .py (.bool k) ∧ Q k ρ') E
@[simp] def bNot (t : VBM) : VBM := fun ρ Q E => t ρ (fun k ρ' => Q (!k) ρ') E
@[simp] def bAnd (t u : VBM) : VBM := fun ρ Q E => t ρ (fun k ρ' => if k = true then u ρ' Q E else Q false ρ') E
@[simp] def bOr (t u : VBM) : VBM := fun ρ Q E => t ρ (fun k ρ' => if k = true then Q true ρ' else u ρ' Q E) E
section
variable {X : Cx} {b : Bg} {W : WX} {e e1 e2 c : Expr} {es : List Expr} {t t1 t2 : VTM} {u : VAM} {pos : Pos} {tc : VB} {s1 s2 : VBM}
theorem vm_if (hc : VTe X b W c tc) (h1 : VM X b W e1 t1) (h2 : VM X b W e2 t2) : VM X b W (.IfExp c e1 e2 pos) (mIf tc t1 t2) :=
  pe_mono (pe_ifExp hc h1 h2) fun σ H Q ⟨H0, M, Zo, Z, ρ, Qd, Ed, f, q, l, m⟩ => ⟨Zo, Z, ρ, _, _, f.v, q, fun k H1 x1 g1 q1 => by
    cases k with
    | true => exact ⟨H0, M, Zo, Z, ρ, _, _, f.ex x1 g1, q1, fun v H' d ρ' k' f' r q' => l v H' d ρ' (fun a o e nz => k' a o (f.v.keep x1 a o e nz) nz) f' r q', m⟩
    | false => exact ⟨H0, M, Zo, Z, ρ, _, _, f.ex x1 g1, q1, fun v H' d ρ' k' f' r q' => l v H' d ρ' (fun a o e nz => k' a o (f.v.keep x1 a o e nz) nz) f' r q', m⟩, fun c y H1 er x1 g1 r1 q1 => m c y H1 er ρ (f.ex x1 g1) r1 q1⟩
end
/-! ### statements -/
@[simp] def sExprM (t : VTM) : VS := fun ρ De => t ρ (fun _ ρ' => De.nx ρ') (fun er ρ' => De.ex ρ' er)
@[simp] def sSetM (i : Nat) (t : VTM) : VS := fun ρ De => t ρ (fun d ρ' => i < ρ'.length ∧ De.nx (ρ'.set i (.shr d))) (fun er ρ' => De.ex ρ' er)
@[simp] def sAsgM (t : VTM) (g : VTg) : VS := fun ρ De => t ρ (fun d ρ' => g d ρ' De.nx) (fun er ρ' => De.ex ρ' er)
@[simp] def sRetO (t : VT) : VS := fun ρ De => t ρ (fun d => De.ro ρ (.val d)) (De.ex ρ)
@[simp] def sRetM (t : VTM) : VS := fun ρ De => t ρ (fun d ρ' => De.rt d ∨ De.ro ρ' (.val d)) (fun er ρ' => De.ex ρ' er)
@[simp] def sRetON : VS := fun ρ De => De.ro ρ (.val (.py .none))
@[simp] def sIfM (c : VBM) (g h : VS) : VS := fun ρ De => c ρ (fun k ρ' => if k = true then g ρ' De else h ρ' De) (fun er ρ' => De.ex ρ' er)
/-- return a new object; return the own object of slot j -/
@[simp] def sRetNw (t : VT) : VS := fun ρ De => t ρ (fun d => De.ro ρ (.nw d)) (De.ex ρ)
@[simp] def sRetOw (j : Nat) : VS := fun ρ De => ∃ d, ρ[j]? = some (.own d) ∧ De.ro ρ (.nw d)
/-- return [new object, ..]; return [own object, ..] -/
@[simp] def sRetNwL (u : VAm) : VS := fun ρ De => u ρ (fun ms => ∃ d ds, ms = (true, d) :: ds.map (fun d => (false, d)) ∧ ds.length < 1000 ∧ De.ro ρ (.nwL d ds)) (De.ex ρ)
@[simp] def sRetOwL (j : Nat) (u : VA) : VS := fun ρ De => ∃ d, ρ[j]? = some (.own d) ∧ u ρ (fun ds => ds.length < 1000 ∧ De.ro ρ (.nwL d ds)) (De.ex ρ)
section
variable {X : Cx} {b : Bg} {W : WX} {e e1 e2 : Expr} {es : List Expr} {st : Stmt} {sts : List Stmt} {t : VTM} {tv : VT} {u : VA} {g h : VS} {pos pos' : Pos} {i j : Nat} {x : Str}
theorem vs_exprM (he : VM X b W e t) (hs : swapsWith e none pos.line X.env = pure false := by rfl) : VSt X b W (.Expr e pos) (sExprM t) :=
  ps_mono (ps_expr he hs) fun D σ H ⟨H0, M, Zo, Z, ρ, De, f, q, l⟩ => ⟨H0, M, Zo, Z, ρ, _, _, f, q, fun v H' d ρ' k f' r q' => l.nx _ _ H' _ f' q', fun c y H' er ρ' f' r q' => l.ex c y Z σ H' ρ' er f' r q'⟩
theorem vs_retO (he : VE X b W e tv) : VSt X b W (.Return (some e) pos) (sRetO tv) :=
  ps_mono (ps_ret he) fun D σ H ⟨H0, M, Zo, Z, ρ, De, f, q, l⟩ => ⟨Zo, Z, ρ, _, _, f.v, q, fun v H' d x g r q' => l.ro v Z σ H' ρ (.val d) (f.ex x g) r q', l.er f⟩
theorem vs_retM (he : VM X b W e t) : VSt X b W (.Return (some e) pos) (sRetM t) :=
  ps_mono (ps_ret he) fun D σ H ⟨H0, M, Zo, Z, ρ, De, f, q, l⟩ => ⟨H0, M, Zo, Z, ρ, _, _, f, q, fun v H' d ρ' k f' r q' => q'.elim (fun q' => l.rt v H' d f'.ext f'.v.g (f'.out r) q') fun q' => l.ro v Z σ H' ρ' (.val d) f' r q', fun c y H' er ρ' f' r q' => l.ex c y Z σ H' ρ' er f' r q'⟩
theorem new_back {H H' : Hp} {b : Bg} (g : b.G H') (x : Ex b H H') {c : Addr} (h : H' c = none) : H c = none := by
  cases q : H c with
  | none => rfl
  | some o =>
    by_cases hb : b.B c
    · exact absurd h (b.dom _ _ g hb)
    · rw [x c o q hb] at h; cases h
theorem vs_retOw (he : PE X e (tVar j)) : VSt X b W (.Return (some e) pos) (sRetOw j) :=
  ps_mono (ps_ret he) fun D σ H ⟨H0, M, Zo, Z, ρ, De, f, ⟨d, e1, q⟩, l⟩ => by
    obtain ⟨a, h1, h2, h3, h4⟩ := f.v.own j d e1
    exact ⟨.ref a, h1, l.ro _ Z σ H ρ (.nw d) f ⟨a, rfl, f.fr j d a e1 h1, h3, h4.mono (fun c z => .inl (z.elim (f.v.zo c) fun q => by rw [q]; exact h2)) (fun _ _ e _ => e) fun _ e => e⟩ q⟩
end
/-! ### what gives back a new object; a new list that begins with one -/
abbrev SL := List D → (D → List D → Prop) → (Er → Prop) → Prop
def spN (b : Bg) (S : SV) : Sp := fun vs H Q E => ∃ Z ds Qd Ed, Gd b Z H ∧ Rps b Z H vs ds ∧ S ds Qd Ed ∧ (∀ x H' d, Ex b H H' → b.G H' → H x = none → Ow b (Zx Z x) H' x d → Qd d → Q (.ref x) H') ∧ ∀ c x H' er, Ex b H H' → b.G H' → ErRp b Z H' c x er → Ed er → E c x H'
def spL (b : Bg) (S : SL) : Sp := fun vs H Q E => ∃ Z ds Qd Ed, Gd b Z H ∧ Rps b Z H vs ds ∧ S ds Qd Ed ∧
  (∀ p x ws H' d ds', Ex b H H' → b.G H' → H p = none → H x = none → p ≠ x → H' p = some (.lst (.ref x :: ws)) → Ow b (Zx (Zx Z x) p) H' x d → Rps b (Zx (Zx Z x) p) H' ws ds' → Qd d ds' → Q (.ref p) H') ∧ ∀ c x H' er, Ex b H H' → b.G H' → ErRp b Z H' c x er → Ed er → E c x H'
@[simp] def finN (Q : D → Prop) (E : Er → Prop) : VEnds where
  nx := fun _ => False
  rt := fun _ => False
  bk := fun _ => False
  ct := fun _ => False
  ex := fun _ => E
  ro := fun _ r => ∃ d, r = .nw d ∧ Q d
@[simp] def finL (Q : D → List D → Prop) (E : Er → Prop) : VEnds where
  nx := fun _ => False
  rt := fun _ => False
  bk := fun _ => False
  ct := fun _ => False
  ex := fun _ => E
  ro := fun _ r => ∃ d ds, r = .nwL d ds ∧ Q d ds
section
variable {P : Program} {w : World} {K : PySem.W.Frag} {mg : Str → Option Value} {base : Heap} {b : Bg} {k : Nat} {x qual : Str} {st : Stmt} {f : Addr} {fd : FuncData} {N ps : List Str} {S : SV} {SLq : SL}
theorem er_up {b : Bg} {Z Z' : Addr → Prop} {H : Hp} (h : ∀ a, Z a → Z' a) {c : Value} {x : Option Addr} {er : Er} (r : ErRp b Z' H c x er) : ErRp b Z H c x er := by
  obtain ⟨h1, h2⟩ := r
  refine ⟨h1, h2.imp id ?_⟩
  rintro ⟨a, xs, e1, e2, e3, e4⟩
  exact ⟨a, xs, e1, e2, fun z => e3 (h a z), e4.mono (fun c z => .inl (h c z)) fun _ _ e _ => e⟩
theorem fnN (F : Fun K x qual st f fd) (Sc : FnScope N ps (defScope st)) {t : VS} (hlen : ∀ ds Q E, S ds Q E → ds.length = ps.length) (hps : ps.length ≤ N.length)
    (hbody : ∀ (cdv : Value) (A : Around) (outer : List Env) (s : Shared) (H : Hp) (E : XK), Room k (A.deeper (envOfC qual (defScope st) s.heap.objs.size f cdv)) →
      Takes (cxOf (L2.CX P w) P w K mg base N qual (defScope st) f cdv A outer s H E) (WF E) → VSs (cxOf (L2.CX P w) P w K mg base N qual (defScope st) f cdv A outer s H E) b (WF E) (defBody st) t)
    (hlaw : ∀ ds Q E, S ds Q E → t (envOf N.length ds) (finN Q E)) : FnOk P w K mg base (L2.CX P w) (k + 1) f fd ps (spN b S) := by
  have len : ∀ vs H Q E, spN b S vs H Q E → vs.length = ps.length := fun vs H Q E ⟨Z, ds, Qd, Ed, g, r, s, _⟩ => r.length.trans (hlen ds Qd Ed s)
  refine F.okX Sc len fun cdv A outer s H vs Q E hr h => ⟨_, hbody cdv A outer s H E hr (takes_of rfl rfl rfl rfl), ?_⟩
  have hl := Nat.le_trans (Nat.le_of_eq (len _ _ _ _ h)) hps
  obtain ⟨Z, ds, Qd, Ed, g, r, s, l, m⟩ := h
  have xx : ∀ {H'}, (∀ a o, H a = some o → ¬ b.B a → ¬ False → H' a = some o) → Ex b H H' := fun h a o e n => h a o e n not_false
  refine ⟨H, fun _ => False, Z, Z, envOf N.length ds, finN Qd Ed, ⟨VOk.entry g r hl, fun _ _ e _ _ => e, fun i d a e _ => ?_⟩, hlaw ds Qd Ed s, ⟨fun _ _ _ _ _ q => q.elim, fun _ _ _ _ _ _ q => q.elim, fun _ _ _ _ _ q => q.elim, fun _ _ _ _ _ q => q.elim, fun c y Z' σ' H' ρ' er f' r' q => m c y H' er (xx f'.ext) f'.v.g (er_up f'.v.zo r') q, fun v Z' σ' H' ρ' r' f' k' ⟨d, er, q⟩ => ?_⟩⟩
  · rcases envOf_at e with h | ⟨d', h, _⟩ <;> cases h
  · subst er
    obtain ⟨a, ev, hm, nz, ow⟩ := k'
    subst ev
    exact l a H' d (xx f'.ext) f'.v.g (hm.elim False.elim id) ow q
end
structure CalN (P : Program) (w : World) (K : PySem.W.Frag) (mg : Str → Option Value) (base : Heap) (b : Bg) (k : Nat) (x : Str) (ps : List Str) (S : SV) where
  f : Addr
  fd : FuncData
  F : FnOk P w K mg base (L2.CX P w) k f fd ps (spN b S)
  g : mg x = some (.ref f)
  kp : PySem.W.keepIn K (.ref f) = true
  bd : Binds K fd ps []
structure CalL (P : Program) (w : World) (K : PySem.W.Frag) (mg : Str → Option Value) (base : Heap) (b : Bg) (k : Nat) (x : Str) (ps : List Str) (S : SL) where
  f : Addr
  fd : FuncData
  F : FnOk P w K mg base (L2.CX P w) k f fd ps (spL b S)
  g : mg x = some (.ref f)
  kp : PySem.W.keepIn K (.ref f) = true
  bd : Binds K fd ps []
/-- names = a call that gives back a new list with a new object ahead -/
@[simp] def sUnlN (is : List Nat) (S : SL) (u : VA) : VS := fun ρ De => (∀ i ∈ is, i < ρ.length) ∧ u ρ (fun ds => S ds (fun d ds' => ds'.length + 1 = is.length ∧ De.nx (setE is ((true, d) :: ds'.map fun d => (false, d)) ρ)) (De.ex ρ)) (De.ex ρ)
section
variable {X : Cx} {b : Bg} {W : WX} {k j : Nat} {S : SV} {SLq : SL} {x : Str} {ps : List Str} {e : Expr} {es : List Expr} {u : VA} {p pos pos' pt : Pos} {is : List Nat} {tgs : List Expr}
theorem vn_callN (c : CalN X.prog X.w X.K X.mg X.base b k x ps S) (hr : Room j X.A) (tk : Takes X W) (hg : Gl X x) (ha : VAs X b W (e :: es) u) (hk : k ≤ j := by decide)
    (hdb : (x == ("__debug__" : Str)) = false := by decide) (he : starEach (e :: es) X.env = (false, eval e X.env) :: starEach es X.env := by rfl) (hpl : (backTo pos (starEach es X.env)).any (·.1) = false := by rfl) :
    VN X b W (.Call (.Name x p) (e :: es) [] pos) (vCall S u) :=
  pe_mono (pe_callS c.F (hr.mono hk) hg c.g c.kp c.bd (passAt tk) ha hdb he hpl) fun σ H Q ⟨Zo, Z, ρ, Qd, Ed, v, q, l, m⟩ => ⟨Zo, Z, ρ, _, Ed, v, q, fun vs H1 ds x1 g1 r1 q1 => by
    have v1 := v.ex x1 g1
    exact ⟨Z, ds, Qd, Ed, v1.gd, r1, q1, fun y H2 d x2 g2 hy ow q2 => l (.ref y) H2 d (x1.trans x2) g2 ⟨y, rfl, new_back g1 x1 hy, ow⟩ q2, fun c z H2 er x2 g2 r2 q2 => m c z H2 er (x1.trans x2) g2 r2 q2⟩, m⟩
end
end VL
set_option Elab.async false
set_option linter.all false
set_option maxRecDepth 100000
set_option maxHeartbeats 4000000
/-! VL127: of classes whose objects change: constants, static methods, making one; len, str; texts with holes -/
namespace VL
open PySem PySem.Spec PyProof.Rows L2 StX
/-! ### a constant of the class, read through an object -/
structure ConQ (K : PySem.W.Frag) (b : Bg) (ns : List Str) (f : Str) (p : PyData) : Prop where
  at_ : ∀ n ∈ ns, ∃ (v : V) (u : Value), Cls K (b.cls n) ∧ Con K (b.cls n) f v u ∧ ∀ (Z : Addr → Prop) (H : Hp), Rq Z H v p
@[simp] def vConQ (ns : List Str) (f : Str) (p : PyData) (t : VT) : VT := fun ρ Q E => t ρ (fun d => ∃ a n fs, d = .rob a n fs ∧ n ∈ ns ∧ fs.lookup f = none ∧ Q (.py p)) E
theorem ve_conQ {X : Cx} {b : Bg} {W : WX} {e : Expr} {t : VT} {pos : Pos} {ns : List Str} {f : Str} {p : PyData} (c : ConQ X.K b ns f p) (h : VQ X b W e t) (hb : attributeBase e f X.env (eval e X.env) = eval e X.env := by rfl) : VE X b W (.Attribute e f pos) (vConQ ns f p t) :=
  pe_mono (pe_con h hb) fun σ H Q ⟨Zo, Z, ρ, Qd, Ed, v, q, l, m⟩ => ⟨Zo, Z, ρ, _, Ed, v, q, fun x H1 d x1 g1 r1 ⟨a, n, fs, ed, hn, hf, q1⟩ => by
    subst ed
    obtain ⟨dx, xs, rfl, hH, rq⟩ := r1.rb.rob
    obtain ⟨cv, cu, cl, co, rp⟩ := c.at_ n hn
    exact ⟨a, _, dx, xs, cv, cu, rfl, hH, cl, co, rq.none hf, l cv H1 (.py p) x1 g1 (rp Z H1) q1⟩, m⟩
/-! ### a static method, through an object and through the class -/
/-- C.m is a static method: its record at p, its def at g -/
structure SInst (K : PySem.W.Frag) (C : Addr) (m : Str) (p g : Addr) : Prop where
  pg : PySem.W.plainGet K C m = true
  hd : PySem.W.hasDictIn K C = true
  at_ : PySem.W.findIn K (.ref C) m = some (some (.ref p))
  ty : PySem.W.typeIn K (.ref p) = some (.type "staticmethod")
  get : PySem.W.specialIn K (.ref p) "__get__" = some (some (.builtin "staticmethod.__get__"))
  tk : PySem.W.takesIn K (.ref p) = some false
  cp : PySem.W.copiedNames.contains m = false
  rc : ∃ rest, PySem.W.recIn K p "staticmethod" = some (.ref g :: rest)
  kp : PySem.W.keepIn K (.ref g) = true
/-- .. read off the class -/
structure SCls (K : PySem.W.Frag) (C : Addr) (mc : Value) (m : Str) (p g : Addr) : Prop where
  rd : PySem.W.readsIn K C mc = true
  ga : PySem.W.specialIn K (.ref C) "__getattribute__" = some (some (.builtin "type.__getattribute__"))
  at_ : PySem.W.findCls K (.ref C) mc m = some (.get (.builtin "staticmethod.__get__") (.ref p) .none (.ref C))
  rc : ∃ rest, PySem.W.recIn K p "staticmethod" = some (.ref g :: rest)
  kp : PySem.W.keepIn K (.ref g) = true
section
variable {X : Cx} {pins : List (Addr × Obj)} {σ : L2.St} {H : Hp} {s : Shared} {a C p g dx : Addr} {mc : Value} {m : Str} {A : Around} {E : Value → Shared → Prop} {fs : List (Str × V)}
theorem getmethsm_ok {pl : Sem Bool} {Q : Value × List Value → Shared → Prop} (I : Inv X pins σ H s) (ea : H a = some (.ins C dx fs)) (l : fs.lookup m = none) (k : SInst X.K C m p g)
    (h : ∀ s', Inv X pins σ H s' → Q (.ref g, []) s') : wpAny (model X.prog X.w) A (getMethod (.ref a) m pl) Q E s := by
  obtain ⟨rest, hp⟩ := k.rc
  obtain ⟨mA, O, rr, _, _, _⟩ := ins_get I.hok ea
  have hn : mA m = none := RelO.none_of (by rw [← l]; exact rr m)
  obtain ⟨od, J, hl⟩ := O.look
  refine PySem.W.method_usual (r := some (.ref p)) I.kIn J (PySem.W.plainGet_of k.pg).1 (PySem.W.plainGet_of k.pg).2 k.at_ (by simp only [Option.all_some, k.ty, Option.any_some]; decide +kernel) ?_
  refine PySem.W.get_bind I.kIn J (PySem.W.plainGet_of k.pg).1 (PySem.W.findObj_fn k.hd k.at_ k.get k.tk k.cp (by rw [hl m, hn])) (PySem.W.plainGet_of k.pg).2 ?_
  exact wpAny_call (PySem.W.sm_get (s := { s with toks := s.toks + 1 }) I.kIn hp (PySem.W.handed_on rfl (h _ (I.tok _))))
end
structure CalT (P : Program) (w : World) (K : PySem.W.Frag) (mg : Str → Option Value) (base : Heap) (b : Bg) (k : Nat) (ns : List Str) (m : Str) (S : SV) where
  at_ : ∀ n ∈ ns, ∃ (p g : Addr) (mc : Value) (fd : FuncData) (ps : List Str), FnOk P w K mg base (L2.CX P w) k g fd ps (spV b S) ∧ Binds K fd ps [] ∧ SInst K (b.cls n) m p g ∧ SCls K (b.cls n) mc m p g
@[simp] def vStat (ns : List Str) (m : Str) (S : SV) (t : VT) (u : VA) : VT := fun ρ Q E => t ρ (fun d => ∃ a n fs, d = .rob a n fs ∧ n ∈ ns ∧ fs.lookup m = none ∧ u ρ (fun ds => S ds Q E) E) E
/-- through a class that a name holds -/
@[simp] def vStatC (ns : List Str) (S : SV) (i : Nat) (u : VA) : VT := fun ρ Q E => ∃ n, n ∈ ns ∧ ρ[i]? = some (.shr (.cls n)) ∧ u ρ (fun ds => S ds Q E) E
section
variable {X : Cx} {b : Bg} {W : WX} {k j : Nat} {m : Str} {S : SV} {e o : Expr} {es : List Expr} {u : VA} {t : VT} {p pos apos : Pos} {ns : List Str} {i : Nat}
theorem ve_stat {pl : Sem Bool} (c : CalT X.prog X.w X.K X.mg X.base b k ns m S) (hr : Room j X.A) (tk : Takes X W) (ho : VQ X b W o t) (ha : VAs X b W (e :: es) u) (hk : k ≤ j := by decide)
    (hst : starEach (e :: es) X.env = (false, eval e X.env) :: starEach es X.env := by rfl) (hpl : (backTo pos (starEach es X.env)).any (·.1) = false := by rfl)
    (ht : eval (.Call (.Attribute o m apos) (e :: es) [] pos) X.env = (do
      let ov ← eval o X.env
      standAt apos.atName
      let (f, first) ← holding [ov] (getMethod ov m pl)
      callWith pos f first (backTo pos (starEach (e :: es) X.env)) (backToKw pos (keywordEach [] X.env))) := by rfl) : VE X b W (.Call (.Attribute o m apos) (e :: es) [] pos) (vStat ns m S t u) := by
  refine ⟨fun pins s σ H Q I ⟨Zo, Z, ρ, Qd, Ed, v, q, l, mm⟩ => ?_⟩
  refine PySem.W.methodCall_KW (pl := pl) (thn (ho.run pins s σ H (fun x H1 => ∃ a dx D xs p g fd ps, x = V.ref a ∧ H1 a = some (.ins D dx xs) ∧ xs.lookup m = none ∧ SInst X.K D m p g ∧ FnOk X.prog X.w X.K X.mg X.base (L2.CX X.prog X.w) k g fd ps (spV b S) ∧ Binds X.K fd ps [] ∧ LA b W u σ H1 (fun vs H2 => spV b S vs H2 Q (WE W σ))) I ?_) fun u1 s1 ⟨x, H1, I1, rx, a, dx, D, xs, p, g, fd, ps, ex, ea, lx, si, F, bd, q1⟩ => ?_) ht
  · refine ⟨Zo, Z, ρ, _, Ed, v, q, fun x H1 d x1 g1 r1 ⟨a, n, fs, ed, hn, hf, q1⟩ => ?_, mm⟩
    subst ed
    have v1 := v.ex x1 g1
    obtain ⟨dx, xs, rfl, hH, rq⟩ := r1.rb.rob
    obtain ⟨p, g, mc, fd, ps, F, bd, si, sc⟩ := c.at_ n hn
    refine ⟨a, dx, _, xs, p, g, fd, ps, rfl, hH, rq.none hf, si, F, bd, Zo, Z, ρ, _, Ed, v1, q1, fun vs H2 ds x2 g2 r2 q2 => ?_, fun c z H2 er x2 g2 r2 q2 => mm c z H2 er (x1.trans x2) g2 r2 q2⟩
    have v2 := v1.ex x2 g2
    exact ⟨Z, ds, Qd, Ed, v2.gd, r2, q2, fun y H3 d x3 g3 r3 q3 => l y H3 d ((x1.trans x2).trans x3) g3 r3 q3, fun c z H3 er x3 g3 r3 q3 => mm c z H3 er ((x1.trans x2).trans x3) g3 r3 q3⟩
  · subst ex
    obtain rfl : u1 = Value.ref a := rx
    refine getmethsm_ok I1 ea lx si fun s2 I2 => ?_
    exact PySem.W.callWith_K (first := []) (h₀ := X.base) I2.ok.mod.kin si.kp (thn (ha.run pos pins s2 σ H1 _ I2 q1) fun us s3 ⟨vs, H2, I3, r, q2⟩ => ⟨I3.kIn, run_fnS F (hr.mono hk) bd (passAt tk σ) I3 r q2⟩) hst hpl
end
/-! ### C(), C a class of objects that change; by its name, by a name that holds it -/
structure CalK (P : Program) (w : World) (K : PySem.W.Frag) (mg : Str → Option Value) (base : Heap) (b : Bg) (k : Nat) (n : Str) (S : SM) where
  f : Addr
  fd : FuncData
  ps : List Str
  F : FnOk P w K mg base (L2.CX P w) k f fd ps (spM b S)
  M : Mk K (b.cls n) f
  g : mg n = some (.ref (b.cls n))
  bd : Binds K fd ps []
@[simp] def vMakeQ (n : Str) (S : SM) (u : VA) : VT := fun ρ Q E => u ρ (fun ds => ∀ a, S a n [] [] ds (fun d fs => d = .py .none ∧ Q (.rob a n fs)) (fun er _ => E er)) E
section
variable {X : Cx} {b : Bg} {W : WX} {k j : Nat} {n : Str} {S : SM} {e o : Expr} {es : List Expr} {u : VA} {p pos apos : Pos} {i : Nat}
theorem makeQ_go {Zo Z : Addr → Prop} {σ : L2.St} {H : Hp} {ρ : VEnv} (v : VOk b Zo Z σ H ρ) {x dx : Addr} (hx : H x = none) (hdx : H dx = none) (hne : dx ≠ x) {vs : List V} {ds : List D} (r : Rps b Z H vs ds) {Qd : D → Prop} {Ed : Er → Prop} {Q : VK} {E : XK}
    (q : S x n [] [] ds (fun d fs => d = .py .none ∧ Qd (.rob x n fs)) (fun er _ => Ed er)) (l : ∀ v H' d, Ex b H H' → b.G H' → Rn b Z H H' v d → Qd d → Q v H') (m : ∀ c y H' er, Ex b H H' → b.G H' → ErRp b Z H' c y er → Ed er → E c y H') :
    spM b S (.ref x :: vs) (upd (upd H dx (.own x)) x (.ins (b.cls n) dx [])) (fun v H2 => v = .non ∧ Q (.ref x) H2) E := by
  generalize hH2 : upd (upd H dx (.own x)) x (.ins (b.cls n) dx []) = H2
  have at_ : ∀ c, c ≠ x → c ≠ dx → H2 c = H c := fun c c1 c2 => by rw [← hH2, upd_ne c1, upd_ne c2]
  have x2 : Ex b H H2 := fun c o hc _ => by
    rw [at_ c (fun z => by rw [z, hx] at hc; cases hc) (fun z => by rw [z, hdx] at hc; cases hc)]
    exact hc
  have g2 : b.G H2 := b.loc H H2 (fun c hc => at_ c (fun z => b.dom H c v.g hc (by rw [z]; exact hx)) (fun z => b.dom H c v.g hc (by rw [z]; exact hdx))) (fun c o _ e => by rw [at_ c (fun z => by rw [z, hx] at e; cases e) (fun z => by rw [z, hdx] at e; cases e)]; exact e) v.g
  have v2 := v.ex x2 g2
  have h2x : H2 x = some (.ins (b.cls n) dx []) := by rw [← hH2]; exact upd_same
  have nzx : ¬ Z x := v.fresh hx
  have back : ∀ {H'}, (∀ a o, H2 a = some o → ¬ b.B a → a ≠ x → H' a = some o) → Ex b H H' := fun {H'} h a o e nb => h a o (x2 a o e nb) nb (fun q => by rw [q, hx] at e; cases e)
  refine ⟨x, n, [], [], vs, Z, [], ds, _, _, rfl, v2.gd, nzx, ⟨rfl, dx, [], h2x, .nil⟩, .nil, ?_, q, fun v' H' d fs' ext g' ow r' ⟨ed, q'⟩ => ?_, fun c d H' er fs' ext g' ow re q' => ?_⟩
  · exact r.mono (fun c z => z.imp id fun e => by rw [e]; exact hx) fun c o e nz => x2 c o e (v.nb nz)
  · subst ed
    have rn : Rq _ H' v' .none := r'
    cases rn
    exact ⟨rfl, l (.ref x) H' _ (back ext) g' ⟨x, rfl, hx, ow⟩ q'⟩
  · exact m c d H' er (back ext) g' (er_up (fun a z => .inl z) re) q'
theorem vn_makeQ0 (c : CalK X.prog X.w X.K X.mg X.base b k n S) (hr : Room j X.A) (tk : Takes X W) (hg : Gl X n) (hk : k + 1 ≤ j := by decide) (hdb : (n == ("__debug__" : Str)) = false := by decide) : VN X b W (.Call (.Name n p) [] [] pos) (vMakeQ n S vNil) := by
  refine ⟨fun pins s σ H Q I ⟨Zo, Z, ρ, Qd, Ed, v, q, l, mm⟩ => ?_⟩
  refine wpAny_Call_Name_kw (ld_glob I hg c.g ?_ hdb)
  refine PySem.W.callWith_K0 I.kIn c.M.kp (run_makeS (us := []) (vs := []) c.M c.F (hr.mono hk) c.bd (passAt tk σ) I .nil fun x dx hx hdx hne => ?_)
  exact makeQ_go v hx hdx hne .nil (q x) l mm
end
/-- c(), c a name that holds one of the classes -/
@[simp] def vMakeC (ns : List Str) (S : Str → SM) (i : Nat) : VT := fun ρ Q E => ∃ n, n ∈ ns ∧ ρ[i]? = some (.shr (.cls n)) ∧ ∀ a, S n a n [] [] [] (fun d fs => d = .py .none ∧ Q (.rob a n fs)) (fun er _ => E er)
structure CalKs (P : Program) (w : World) (K : PySem.W.Frag) (mg : Str → Option Value) (base : Heap) (b : Bg) (k : Nat) (ns : List Str) (S : Str → SM) where
  at_ : ∀ n ∈ ns, ∃ (f : Addr) (fd : FuncData) (ps : List Str), FnOk P w K mg base (L2.CX P w) k f fd ps (spM b (S n)) ∧ Mk K (b.cls n) f ∧ Binds K fd ps []
/-! ### len(o), str(o) by the class's own defs -/
structure CalD1 (P : Program) (w : World) (K : PySem.W.Frag) (mg : Str → Option Value) (base : Heap) (b : Bg) (k : Nat) (ns : List Str) (m : Str) (S : Str → SV) where
  at_ : ∀ n ∈ ns, ∃ (f : Addr) (fd : FuncData) (ps : List Str), FnOk P w K mg base (L2.CX P w) k f fd ps (spV b (S n)) ∧ PySem.W.findIn K (.ref (b.cls n)) m = some (some (.ref f)) ∧ PySem.W.isFn K (.ref f) = true ∧ Binds K fd ps []
def rOwn1 (X : Cx) (k : Nat) (m : Str) (C : V → Prop) : List V → Hp → VK → Prop := fun xs H Q => ∃ (a dx D : Addr) (fs : List (Str × V)) (f : Addr) (fd : FuncData) (ps : List Str) (sp : Sp), xs = [.ref a] ∧ H a = some (.ins D dx fs) ∧ PySem.W.findIn X.K (.ref D) m = some (some (.ref f)) ∧ PySem.W.isFn X.K (.ref f) = true ∧
  FnOk X.prog X.w X.K X.mg X.base (L2.CX X.prog X.w) k f fd ps sp ∧ Binds X.K fd ps [] ∧ sp [.ref a] H (fun v H' => C v ∧ Q v H') (fun _ _ _ => False)
theorem run_at1 {X : Cx} {pins : List (Addr × Obj)} {σ : L2.St} {H : Hp} {s : Shared} {k : Nat} {A : Around} {f a : Addr} {fd : FuncData} {ps : List Str} {sp : Sp} {Q : VK} {E' : Value → Shared → Prop} (F : FnOk X.prog X.w X.K X.mg X.base (L2.CX X.prog X.w) k f fd ps sp) (bd : Binds X.K fd ps []) (hr : Room k A) (e0 : Env0 X.prog X.w X.K X.mg X.base A X.stack s H)
    (I : Inv X pins σ H s) (h : sp [.ref a] H Q (fun _ _ _ => False)) : wpAny (model X.prog X.w) A (call (.ref f) [.ref a]) (EP X pins σ Q) E' s := by
  have b := bd s [.ref a] I.kIn (by rw [List.append_nil]; exact F.len _ _ _ _ h)
  rw [List.append_nil] at b
  refine wpAny_call (codeAny_mono (F.run A X.stack s H ⟨[.ref a], []⟩ [.ref a] [.ref a] Q _ hr e0 b (.cons rfl .nil) h) fun r s' hq => ?_)
  cases r with
  | error e => obtain ⟨_, _, _, _, _, _, _, _, _, _, _, _, z⟩ := hq; exact z.elim
  | ok fl =>
    cases fl with
    | ret u => exact I.after hq
    | next => exact False.elim hq
    | brk => exact False.elim hq
    | cont => exact False.elim hq
theorem call_strQ {X : Cx} {k : Nat} (hr : Room (k + 2) X.A) (hu : X.A.in1.in1.units < cLine) : CallR X (.type "str") (rOwn1 X k "__str__" fun v => ∃ y : Str, v = .str y) := by
  intro pins s σ H xs us Q I r ⟨a, dx, D, fs, f, fd, ps, sp, ex, ea, hs, hf, F, bd, h⟩
  subst ex
  obtain ⟨u1, rfl, r1⟩ : ∃ u1, us = [u1] ∧ RelV (.ref a) u1 := by
    cases r with
    | cons r1 r2 => cases r2; exact ⟨_, rfl, r1⟩
  cases (show u1 = Value.ref a from r1)
  obtain ⟨mA, O, _, _, _, _⟩ := ins_get I.hok ea
  obtain ⟨od, J, _⟩ := O.look
  refine PySem.W.kso_call hu I.kIn J hs hf (wpAny_mono (run_at1 F bd hr.in1.in1 I.env0.in1.in1 I h) (fun r s' z => ?_) fun _ _ x => x)
  obtain ⟨v, H', I', rv, ⟨y, ev⟩, qv⟩ := z
  subst ev
  obtain ⟨t, rfl⟩ := rv
  exact ⟨.str y, H', I', ⟨_, rfl⟩, qv⟩
@[simp] def vLenQ (ns : List Str) (S : Str → SV) (t : VT) : VT := fun ρ Q E => t ρ (fun d => ∃ a n fs, d = .rob a n fs ∧ n ∈ ns ∧ S n [d] (fun r => ∃ i : Int, r = .py (.int i) ∧ 0 ≤ i ∧ i < 2 ^ 63 ∧ Q r) (fun _ => False)) E
@[simp] def vStrQ (ns : List Str) (S : Str → SV) (t : VT) : VT := fun ρ Q E => t ρ (fun d => ∃ a n fs, d = .rob a n fs ∧ n ∈ ns ∧ S n [d] (fun r => ∃ y : Str, r = .py (.str y) ∧ Q r) (fun _ => False)) E
section
variable {X : Cx} {b : Bg} {W : WX} {k j : Nat} {S : Str → SV} {o : Expr} {t : VT} {p pos : Pos} {ns : List Str}
theorem own1_go {m : Str} {C : V → Prop} (c : CalD1 X.prog X.w X.K X.mg X.base b k ns m S) {Z : Addr → Prop} {H : Hp} (g : Gd b Z H) {x : V} {a : Addr} {n : Str} {fs : List (Str × FV)} (r : Rl b Z H x (.rob a n fs)) (hn : n ∈ ns) {Qd Qd' : D → Prop} {Q : VK}
    (hC : ∀ Z H v d, Rp b Z H v d → Qd' d → hallO d ∧ C v ∧ Qd d) (q : S n [.rob a n fs] Qd' (fun _ => False)) (l : ∀ v H' d, Ex b H H' → b.G H' → Rp b Z H' v d → Qd d → Q v H') : rOwn1 X k m C [x] H Q := by
  obtain ⟨dx, xs, rfl, hH, rq⟩ := r.rb.rob
  obtain ⟨f, fd, ps, F, hs, hf, bd⟩ := c.at_ n hn
  obtain ⟨Zl, gl, sub, rl, back, _⟩ := (Rls.cons r .nil).lend g
  refine ⟨a, dx, _, xs, f, fd, ps, _, rfl, hH, hs, hf, F, bd, Zl, [.rob a n fs], _, _, gl, rl, q, fun v H' d x1 g1 r1 q1 => ?_, fun _ _ _ _ _ _ _ h => h.elim⟩
  obtain ⟨h1, h2, h3⟩ := hC Zl H' v d r1 q1
  exact ⟨h2, l v H' d x1 g1 (back H' v d x1 h1 r1) h3⟩
theorem ve_strQ (c : CalD1 X.prog X.w X.K X.mg X.base b k ns "__str__" S) (hr : Room j X.A) (hg : Gl X ("str" : Str)) (hm : X.mg ("str" : Str) = none) (ho : VQ X b W o t) (hk : k + 2 ≤ j := by decide)
    (he : starEach (o :: []) X.env = (false, eval o X.env) :: starEach [] X.env := by rfl) (hpl : (backTo pos (starEach ([] : List Expr) X.env)).any (·.1) = false := by rfl) : VE X b W (.Call (.Name "str" p) [o] [] pos) (vStrQ ns S t) :=
  pe_mono (pe_callTy (call_strQ (k := k) (hr.mono hk) (Nat.lt_of_le_of_lt (Nat.le_add_right _ 64) (hr.mono hk).in1.in1.units)) hg hm bb_str (pa_cons ho pa_nil he) (by decide) (by decide) he hpl) fun σ H Q ⟨Zo, Z, ρ, Qd, Ed, v, q, l, m⟩ => ⟨Zo, Z, ρ, _, Ed, v, q, fun x H1 d x1 g1 r1 ⟨a, n, fs, ed, hn, q1⟩ => by
    subst ed
    refine own1_go c (v.ex x1 g1).gd r1 hn (fun Z H v d rp ⟨i, e, q2⟩ => ?_) q1 fun u H' d x2 g2 r2 q2 => l u H' d (x1.trans x2) g2 r2 q2
    subst e
    have rq : Rq Z H v (.str i) := rp
    cases rq
    exact ⟨trivial, ⟨i, rfl⟩, q2⟩, m⟩
end
/-! ### texts with holes -/
@[simp] def gFmt : D → (D → Prop) → Prop
  | .py (.str y), Q => y.length ≤ sizeLine ∧ Q (.py (.str y))
  | .py (.int i), Q => i.natAbs.log2 < 1920 ∧ Q (.py (.str (toString i)))
  | _, _ => False
abbrev VJ := VEnv → Str → (Str → Prop) → (Er → Prop) → Prop
@[simp] def jNil : VJ := fun _ acc Q _ => Q acc
@[simp] def jCons (t : VT) (u : VJ) : VJ := fun ρ acc Q E => t ρ (fun d => ∃ y, d = .py (.str y) ∧ (acc ++ y).length ≤ sizeLine ∧ u ρ (acc ++ y) Q E) E
@[simp] def vJoin (u : VJ) : VT := fun ρ Q E => u ρ Str.empty (fun z => Q (.py (.str z))) E
def LJ (b : Bg) (W : WX) (u : VJ) (acc : Str) (σ : L2.St) (H : Hp) (Q : Str → Hp → Prop) : Prop := ∃ Zo Z ρ Qd Ed, VOk b Zo Z σ H ρ ∧ u ρ acc Qd Ed ∧ (∀ z H', Ex b H H' → b.G H' → Qd z → Q z H') ∧ ∀ c x H' er, Ex b H H' → b.G H' → ErRp b Z H' c x er → Ed er → W c x σ H'
def VJs (X : Cx) (b : Bg) (W : WX) (es : List Expr) (u : VJ) : Prop := ∃ ts, PJ X es ts ∧ ∀ acc σ H Q, LJ b W u acc σ H Q → tJs ts acc σ H Q
section
variable {X : Cx} {b : Bg} {W : WX} {e e1 e2 : Expr} {es : List Expr} {t : VT} {u : VJ} {pos : Pos}
theorem ve_fmt (h : VE X b W e t) : VE X b W (.FormattedValue e (-1) none pos) (vUn gFmt t) :=
  pe_mono (pe_fmt h) fun σ H Q ⟨Zo, Z, ρ, Qd, Ed, v, q, l, m⟩ => ⟨Zo, Z, ρ, _, Ed, v, q, fun x H1 d x1 g1 r1 q1 => by
    match d, q1, r1 with
    | .py (.str y), ⟨hz, q1⟩, r1 =>
      have r2 : Rq Z H1 x (.str y) := r1
      cases r2
      exact .inl ⟨y, rfl, hz, l _ H1 (.py (.str y)) x1 g1 (Rq.str y) q1⟩
    | .py (.int i), ⟨hz, q1⟩, r1 =>
      have r2 : Rq Z H1 x (.int i) := r1
      cases r2
      exact .inr ⟨i, rfl, hz, l _ H1 (.py (.str (toString i))) x1 g1 (Rq.str _) q1⟩, m⟩
theorem vj_nil : VJs X b W [] jNil := ⟨[], .nil, fun acc σ H Q ⟨Zo, Z, ρ, Qd, Ed, v, q, l, m⟩ => l acc H Ex.refl v.g q⟩
theorem vj_cons (h : VE X b W e t) (k : VJs X b W es u) : VJs X b W (e :: es) (jCons t u) := by
  obtain ⟨ts, hp, hs⟩ := k
  refine ⟨_, .cons h hp, fun acc σ H Q ⟨Zo, Z, ρ, Qd, Ed, v, q, l, m⟩ => ⟨Zo, Z, ρ, _, Ed, v, q, fun x H1 d x1 g1 r1 ⟨y, ed, hz, q1⟩ => ?_, m⟩⟩
  subst ed
  have r2 : Rq Z H1 x (.str y) := r1
  cases r2
  exact ⟨y, rfl, hz, hs _ σ H1 Q ⟨Zo, Z, ρ, Qd, Ed, v.ex x1 g1, q1, fun z H2 x2 g2 q2 => l z H2 (x1.trans x2) g2 q2, fun c w H2 er x2 g2 r2 q2 => m c w H2 er (x1.trans x2) g2 r2 q2⟩⟩
theorem ve_join (h : VJs X b W (e1 :: e2 :: es) u) : VE X b W (.JoinedStr (e1 :: e2 :: es) pos) (vJoin u) := by
  obtain ⟨ts, hp, hs⟩ := h
  exact pe_mono (pe_joined hp) fun σ H Q ⟨Zo, Z, ρ, Qd, Ed, v, q, l, m⟩ => hs _ σ H _ ⟨Zo, Z, ρ, _, Ed, v, q, fun z H' x g q1 => l (.str z) H' (.py (.str z)) x g (Rq.str z) q1, m⟩
theorem ve_join1 (h : VE X b W e t) : VE X b W (.JoinedStr [e] pos) t := pe_mono (pe_joined1 h) fun _ _ _ q => q
end
end VL
set_option Elab.async false
set_option linter.all false
set_option maxRecDepth 100000
set_option maxHeartbeats 4000000
/-! VL128: try: .. finally: .. -/
namespace VL
open PySem PySem.Spec PyProof.Rows L2 StX
section
variable {X : Cx} {f₀ : Stmt} {fs body : List Stmt} {pos : Pos} {tb : WX → TS} {tf tfs : TS} {Wout : WX}
end
/-- behind the body, and on the way of an error, the suite -/
@[simp] def endF (De : VEnds) (er : Er) : VEnds where
  nx := fun ρ => De.ex ρ er
  rt := fun _ => False
  bk := fun _ => False
  ct := fun _ => False
  ex := fun _ _ => False
@[simp] def endT (tf : VS) (De : VEnds) : VEnds where
  nx := fun ρ => tf ρ { De with ex := fun _ _ => False }
  rt := fun _ => False
  bk := fun _ => False
  ct := fun _ => False
  ex := fun ρ er => tf ρ (endF De er)
@[simp] def sFin (tb tf : VS) : VS := fun ρ De => tb ρ (endT tf De)
section
variable {X : Cx} {b : Bg} {Wout : WX} {f₀ : Stmt} {fs body : List Stmt} {pos : Pos} {tb tf : VS}
end
end VL
set_option Elab.async false
set_option linter.all false
set_option maxRecDepth 100000
set_option maxHeartbeats 4000000
/-! VL129: star parameters of methods and class methods; keyword-only parameters of methods; facts for the join -/
namespace VL
open PySem PySem.Spec PyProof.Rows L2 StX
/-! ### def m(self, *v) that changes self -/
@[simp] def smStar (S : SM) : SM := fun x n fs ds1 ds2 Q E => ds1 = [] ∧ ∃ ps, pys ds2 = some ps ∧ ps.length ≤ sizeLine ∧ S x n fs [] [.py (.tuple ps)] Q E
/-! ### a class method with a star, that gives back a new object -/
section
variable {P : Program} {w : World} {K : PySem.W.Frag} {mg : Str → Option Value} {base : Heap} {b : Bg} {k : Nat} {x qual pv : Str} {st : Stmt} {f : Addr} {fd : FuncData} {N ps : List Str} {S : SV} {SX : SM}
end
/-! ### C.m(..), m a class method that gives back a new object -/
structure CalC (P : Program) (w : World) (K : PySem.W.Frag) (mg : Str → Option Value) (base : Heap) (b : Bg) (k : Nat) (n m : Str) (S : SV) where
  p : Addr
  g : Addr
  mc : Value
  F : FnR P w K mg base (L2.CX P w) k g (spN b S)
  rd : ClX.CRead K (b.cls n) mc
  cm : ClX.CMet K (b.cls n) mc m p g
  gn : mg n = some (.ref (b.cls n))
@[simp] def vClsM (n : Str) (S : SV) (u : VA) : VT := fun ρ Q E => u ρ (fun ds => S (.cls n :: ds) Q E) E
section
variable {X : Cx} {pins : List (Addr × Obj)} {σ : L2.St} {H : Hp} {s : Shared} {C p g : Addr}
end
section
variable {X : Cx} {b : Bg} {W : WX} {k j : Nat} {n m : Str} {S : SV} {e : Expr} {es : List Expr} {u : VA} {p pos apos : Pos}
end
end VL
set_option Elab.async false
set_option linter.all false
set_option maxRecDepth 100000
set_option maxHeartbeats 4000000
/-! VL130: the sack: a list of a number and a list -/
namespace VL
open PySem PySem.Spec PyProof.Rows L2
def sackAt (r l : Addr) (gs : List Int) (H : Hp) : Prop := ∃ x : Int, H r = some (.lst [.int x, .ref l]) ∧ H l = some (.lst (gs.map V.int)) ∧ gs.length ≤ 63
theorem sackAt.ne {r l : Addr} {gs : List Int} {H : Hp} (h : sackAt r l gs H) : r ≠ l := fun e => by
  obtain ⟨x, h1, h2, _⟩ := h
  subst e
  rw [h1] at h2
  match gs, h2 with
  | [], h2 => cases h2
  | [_], h2 => cases h2
  | [_, _], h2 => cases h2
  | _ :: _ :: _ :: _, h2 => cases h2
def sackB (cls : Str → Addr) (r l : Addr) : Bg where
  cls := cls
  B := fun a => a = r ∨ a = l
  G := fun H => ∃ gs, sackAt r l gs H
  loc := fun H H' h _ ⟨gs, x, e1, e2, e3⟩ => ⟨gs, x, by rw [h r (.inl rfl)]; exact e1, by rw [h l (.inr rfl)]; exact e2, e3⟩
  dom := fun H a ⟨gs, x, e1, e2, e3⟩ h => by
    rcases h with rfl | rfl
    · rw [e1]; simp
    · rw [e2]; simp
theorem KeepJ.exS {cls : Str → Addr} {r l : Addr} {H H' : Hp} (k : KeepJ r l H H') : Ex (sackB cls r l) H H' := fun a o e n => k a o e (fun h => n (.inl h)) fun h => n (.inr h)
def spGrab : Sp := fun vs H Q _ => ∃ r l gs, ∃ m : Int, vs = [.ref r, .int m] ∧ sackAt r l gs H ∧ 0 < m ∧ m < 1606938044258990275541962092341162602522202993782792835301376 ∧ ∀ H' gs' x, KeepJ r l H H' → sackAt r l gs' H' → 0 ≤ x → x < m → Q (.int x) H'
theorem grab_v {P : Program} {w : World} {K : PySem.W.Frag} {mg : Str → Option Value} {base : Heap} {k : Nat} {f : Addr} {fd : FuncData} {ps : List Str} {CX : CXT} {cls : Str → Addr} {r l1 : Addr} (h : FnOk P w K mg base CX k f fd ps spGrab) : FnOk P w K mg base CX k f fd ps (spV (sackB cls r l1) (svTake r)) :=
  h.imp fun vs H Q E ⟨Z, ds, Qd, Ed, g, rp, hh, l, _⟩ => by
    obtain ⟨m, ed, h1, h2, q⟩ := svTake_ex hh
    subst ed
    obtain ⟨x, y, rfl, rx, ry⟩ := rbs2 rp
    have ex : x = .ref r := rx
    have ey : y = .int m := Rb.int (b := sackB cls r l1) (.inl ry)
    subst ex ey
    obtain ⟨gs, hb⟩ := g.g
    exact ⟨r, l1, gs, m, rfl, hb, h1, h2, fun H' gs' x kp b' x0 x1 => l (.int x) H' (.py (.int x)) kp.exS ⟨gs', b'⟩ (.int x) (q x x0 x1)⟩
def spSack (K : PySem.W.Frag) : Sp := fun vs H Q _ => ∃ (a : Addr) (ns : List Int), vs = [.ref a] ∧ SqL K H a (ns.map V.int) ∧ ns.length ≤ 63 ∧ ∀ r l H', (∀ c o, H c = some o → H' c = some o) → (∃ gs, sackAt r l gs H') → Q (.ref r) H'
end VL
set_option Elab.async false
set_option linter.all false
set_option maxRecDepth 100000
set_option maxHeartbeats 4000000
/-! VL131: two names at once, the first by a call that changes an object; facts of the classes, for the join -/
namespace VL
open PySem PySem.Spec PyProof.Rows L2 StX
@[simp] def qNs : List Str := ["Queue", "TalliedQueue"]
@[simp] def sPar2M (i j : Nat) (u : VAM) : VS := fun ρ De => u ρ (fun ds ρ' => ∃ d1 d2, ds = [d1, d2] ∧ i < ρ'.length ∧ j < ρ'.length ∧ De.nx ((ρ'.set i (.shr d1)).set j (.shr d2))) (fun er ρ' => De.ex ρ' er)
section
variable {X : Cx} {b : Bg} {W : WX} {e1 e2 : Expr} {u : VAM} {pos : Pos}
end
/-! ### facts of the classes -/
theorem ns_eq {K : PySem.W.Frag} {n : Str} {C D : Addr} (h1 : PySem.W.nsIn K mainGlobals n = some (some (.ref D))) (h : PySem.W.nsIn K mainGlobals n = some (some (.ref C))) : D = C := by
  have := h1.symm.trans h
  injection this with this; injection this with this; injection this
/-- a property -/
structure PropK (K : PySem.W.Frag) (n m qual : Str) (st : Stmt) : Prop where
  ex : ∃ C : Addr, PySem.W.nsIn K mainGlobals n = some (some (.ref C)) ∧ ∃ (p fI : Addr) (fd : FuncData), Fun K m qual st fI fd ∧ PropOf K C m p fI
theorem propK {K : PySem.W.Frag} {C p fI : Addr} {n m qual : Str} {st : Stmt} {rest : List Value} {oc kV doc pm cdv ct : Value} {od an : Option Addr} {osl : Array (Option Value)} (a1 : PySem.W.nsIn K mainGlobals n = some (some (.ref C)))
    (m2 : PySem.W.findIn K (.ref C) m = some (some (.ref p))) (m3 : PySem.W.specialIn K (.ref p) "__get__" = some (some (.builtin "property.__get__"))) (m4 : PySem.W.takesIn K (.ref p) = some true) (m5 : PySem.W.recIn K p "property" = some (.ref fI :: rest))
    (d3 : K.lookup fI = some ⟨oc, od, .func (PySem.W.fnOf m qual (defArgs st) (defBody st) (defScope st) .none kV doc pm an cdv ct), osl⟩) (d4 : PySem.W.codeIn K cdv qual = true) (d5 : PySem.W.keepIn K (.ref fI) = true) : PropK K n m qual st :=
  ⟨C, a1, p, fI, _, fun_mk d3 d4 d5, m2, m3, m4, _, m5⟩
theorem PropK.at {K : PySem.W.Frag} {C : Addr} {n m qual : Str} {st : Stmt} (a : PropK K n m qual st) (h : PySem.W.nsIn K mainGlobals n = some (some (.ref C))) : ∃ (p fI : Addr) (fd : FuncData), Fun K m qual st fI fd ∧ PropOf K C m p fI := by
  obtain ⟨D, h1, h2⟩ := a.ex
  obtain rfl := ns_eq h1 h
  exact h2
/-- a static method -/
structure StatK (K : PySem.W.Frag) (n m qual : Str) (st : Stmt) : Prop where
  ex : ∃ C : Addr, PySem.W.nsIn K mainGlobals n = some (some (.ref C)) ∧ ∃ (p fI : Addr) (mc : Value) (fd : FuncData), Fun K m qual st fI fd ∧ SInst K C m p fI ∧ SCls K C mc m p fI
theorem statK {K : PySem.W.Frag} {C p fI : Addr} {mc : Value} {n m qual : Str} {st : Stmt} {rest : List Value} {oc kV doc pm cdv ct : Value} {od an : Option Addr} {osl : Array (Option Value)} (a1 : PySem.W.nsIn K mainGlobals n = some (some (.ref C)))
    (m2 : PySem.W.findIn K (.ref C) m = some (some (.ref p))) (i1 : PySem.W.plainGet K C m = true) (i2 : PySem.W.hasDictIn K C = true) (i3 : PySem.W.typeIn K (.ref p) = some (.type "staticmethod")) (i4 : PySem.W.specialIn K (.ref p) "__get__" = some (some (.builtin "staticmethod.__get__")))
    (i5 : PySem.W.takesIn K (.ref p) = some false) (i6 : PySem.W.copiedNames.contains m = false) (i7 : PySem.W.recIn K p "staticmethod" = some (.ref fI :: rest)) (c0 : PySem.W.typeIn K (.ref C) = some mc) (c1 : PySem.W.readsIn K C mc = true) (c2 : PySem.W.specialIn K (.ref C) "__getattribute__" = some (some (.builtin "type.__getattribute__")))
    (c3 : PySem.W.findCls K (.ref C) mc m = some (.get (.builtin "staticmethod.__get__") (.ref p) .none (.ref C)))
    (d3 : K.lookup fI = some ⟨oc, od, .func (PySem.W.fnOf m qual (defArgs st) (defBody st) (defScope st) .none kV doc pm an cdv ct), osl⟩) (d4 : PySem.W.codeIn K cdv qual = true) (d5 : PySem.W.keepIn K (.ref fI) = true) : StatK K n m qual st :=
  ⟨C, a1, p, fI, mc, _, fun_mk d3 d4 d5, ⟨i1, i2, m2, i3, i4, i5, i6, ⟨_, i7⟩, d5⟩, ⟨c1, c2, c3, ⟨_, i7⟩, d5⟩⟩
theorem StatK.at {K : PySem.W.Frag} {C : Addr} {n m qual : Str} {st : Stmt} (a : StatK K n m qual st) (h : PySem.W.nsIn K mainGlobals n = some (some (.ref C))) : ∃ (p fI : Addr) (mc : Value) (fd : FuncData), Fun K m qual st fI fd ∧ SInst K C m p fI ∧ SCls K C mc m p fI := by
  obtain ⟨D, h1, h2⟩ := a.ex
  obtain rfl := ns_eq h1 h
  exact h2
/-- a constant of the class -/
structure ConK (K : PySem.W.Frag) (n f : Str) (v : V) : Prop where
  ex : ∃ C : Addr, PySem.W.nsIn K mainGlobals n = some (some (.ref C)) ∧ ∃ u : Value, Con K C f v u
theorem conK {K : PySem.W.Frag} {C : Addr} {n f : Str} {v : V} {u : Value} (a1 : PySem.W.nsIn K mainGlobals n = some (some (.ref C))) (a2 : PySem.W.findIn K (.ref C) f = some (some u)) (a3 : RelV v u) (a4 : PySem.W.specialIn K u "__get__" = some none) (a5 : PySem.W.copiedNames.contains f = false) : ConK K n f v :=
  ⟨C, a1, u, a2, a3, a4, a5⟩
theorem ConK.at {K : PySem.W.Frag} {C : Addr} {n f : Str} {v : V} (a : ConK K n f v) (h : PySem.W.nsIn K mainGlobals n = some (some (.ref C))) : ∃ u : Value, Con K C f v u := by
  obtain ⟨D, h1, h2⟩ := a.ex
  obtain rfl := ns_eq h1 h
  exact h2
/-- a method with one keyword-only parameter -/
structure MethWK (K : PySem.W.Frag) (n m qual : Str) (st : Stmt) (kn : Str) (dv : V) : Prop where
  ex : ∃ C : Addr, PySem.W.nsIn K mainGlobals n = some (some (.ref C)) ∧ ∃ (f D : Addr) (oc doc pm cdv ct u : Value) (od an : Option Addr) (osl : Array (Option Value)), K.lookup f = some ⟨oc, od, .func (PySem.W.fnOf m qual (defArgs st) (defBody st) (defScope st) .none (.ref D) doc pm an cdv ct), osl⟩ ∧ PySem.W.codeIn K cdv qual = true ∧
    PySem.W.nsIn K D kn = some (some u) ∧ RelV dv u ∧ Meth K C m f
theorem methWK {K : PySem.W.Frag} {C f D : Addr} {n m qual kn : Str} {dv : V} {st : Stmt} {oc doc pm cdv ct u : Value} {od an : Option Addr} {osl : Array (Option Value)} (a1 : PySem.W.nsIn K mainGlobals n = some (some (.ref C)))
    (m2 : PySem.W.findIn K (.ref C) m = some (some (.ref f))) (m3 : PySem.W.isFn K (.ref f) = true) (l : K.lookup f = some ⟨oc, od, .func (PySem.W.fnOf m qual (defArgs st) (defBody st) (defScope st) .none (.ref D) doc pm an cdv ct), osl⟩) (c : PySem.W.codeIn K cdv qual = true) (k : PySem.W.keepIn K (.ref f) = true)
    (d : PySem.W.nsIn K D kn = some (some u)) (r : RelV dv u) : MethWK K n m qual st kn dv := ⟨C, a1, f, D, oc, doc, pm, cdv, ct, u, od, an, osl, l, c, d, r, m2, m3, k⟩
theorem MethWK.at {K : PySem.W.Frag} {C : Addr} {n m qual kn : Str} {dv : V} {st : Stmt} {ps : List Str} (a : MethWK K n m qual st kn dv) (h : PySem.W.nsIn K mainGlobals n = some (some (.ref C)))
    (h0 : ∀ (D : Addr) (doc pm : Value) (an : Option Addr) (cdv ct : Value) (us : List Value) (v : Value), us.length = ps.length → KwChain D [(kn, v)] (bindArgs (PySem.W.fnOf m qual (defArgs st) (defBody st) (defScope st) .none (.ref D) doc pm an cdv ct) ⟨us, []⟩) ((ps ++ [kn]).zip (us ++ [v]))) :
    ∃ (f : Addr) (fd : FuncData), Fun K m qual st f fd ∧ Meth K C m f ∧ ∃ ds, Vals [dv] ds ∧ Binds K fd (ps ++ [kn]) ds := by
  obtain ⟨E, h1, f, D, oc, doc, pm, cdv, ct, u, od, an, osl, l, c, e, r, me⟩ := a.ex
  obtain rfl := ns_eq h1 h
  refine ⟨f, _, fun_mk l c me.kp, me, ?_⟩
  have F : FunD K m qual (defArgs st) (defBody st) (defScope st) [] [(kn, dv)] f _ := ⟨⟨oc, od, _, _, doc, pm, an, cdv, ct, osl, rfl, l, c, .inl ⟨rfl, rfl⟩, .inr ⟨D, rfl, fun q hq => by rw [List.mem_singleton.mp hq]; exact ⟨u, e, r⟩⟩⟩, me.kp⟩
  exact F.binds0 ps.length (by simp) (by simp) fun D' doc pm an cdv ct us ks h2 h3 => by
    match ks, h3 with
    | [v], _ => exact h0 D' doc pm an cdv ct us v h2
/-- a def that gives more: its promise with the default -/
theorem fnW {P : Program} {w : World} {K : PySem.W.Frag} {mg : Str → Option Value} {base : Heap} {b : Bg} {k : Nat} {f : Addr} {fd : FuncData} {ps : List Str} {S : SV} {v : V} {dv : PyData} {ds : List Value} (F : FnOk P w K mg base (L2.CX P w) k f fd ps (spV b S)) (hb : Binds K fd ps ds) (hv : Vals [v] ds) (hq : ∀ (Z : Addr → Prop) (H : Hp), Rq Z H v dv) :
    FnR P w K mg base (L2.CX P w) k f (spV b (svW dv S)) :=
  (F.raw hb hv).imp fun vs H Q E ⟨Z, ds, Qd, Ed, g, r, s, l, m⟩ => ⟨Z, ds ++ [D.py dv], Qd, Ed, g, Rps.append r (.cons (d := .py dv) (hq Z H) .nil), s, l, m⟩
theorem fnR0 {P : Program} {w : World} {K : PySem.W.Frag} {mg : Str → Option Value} {base : Heap} {CX : CXT} {k : Nat} {f : Addr} {fd : FuncData} {ps : List Str} {sp : Sp} (F : FnOk P w K mg base CX k f fd ps sp) (hb : Binds K fd ps []) : FnR P w K mg base CX k f sp :=
  (F.raw hb .nil).imp fun vs H Q E h => by rw [List.append_nil]; exact h
end VL
set_option Elab.async false
set_option linter.all false
set_option maxRecDepth 100000
set_option maxHeartbeats 4000000
/-! VL132: the loop that gathers a line into blocks (a list of lists, the last of which grows) -/
namespace VL
open PySem PySem.Spec PyProof.Rows L2 StX
end VL
set_option Elab.async false
set_option linter.all false
set_option maxRecDepth 100000
set_option maxHeartbeats 4000000
namespace LawP
open PySem PySem.Spec PyProof.Rows L2 VL
def t_Scene_init : VS :=
  (sSeq (sFldS 0 "Scene" "groups" (vVar 1))
  (sSeq (sFldS 0 "Scene" "line" (vVar 2))
  (sSeq (sFldS 0 "Scene" "done" (vVar 3))
  (sSeq (sFldS 0 "Scene" "left" (vVar 4))
  (sSeq (sFldS 0 "Scene" "mated" (vVar 5))
  (sSeq (sFldS 0 "Scene" "passed" (vVar 6))
  (sFldS 0 "Scene" "letters" (vVar 7))))))))
def t_Queue_init (S_Scene_init : SI) : VS :=
  (sSeq (sFldQ 0 qNs "scenes" (vOneS (vMake "Scene" S_Scene_init (vCons (vTup vNil) (vCons (vTup vNil) (vCons (vTup vNil) (vCons (vTup vNil) (vCons (vTup vNil) (vCons (vC (.py (.int 0))) (vCons (vC (.py (.str ""))) vNil))))))))))
  (sSeq (sFldQ 0 qNs "kept" (vTup vNil))
  (sFldQ 0 qNs "is_busy" (vC (.py (.bool false))))))
def t_is_whole : VS :=
  (sRet (vAnd (vCal gIsi (vCons (vBor 0) (vCons (vC (.raw (.ty "int"))) vNil))) (vAnd (vNot (vCal gIsi (vCons (vBor 0) (vCons (vC (.raw (.ty "bool"))) vNil)))) (vChain gLe gLe (vBor 1) (vBor 0) (vBor 2)))))
def t_Queue_is_group (S_is_whole : SV) : VS :=
  (sRet (vCall S_is_whole (vCons (vVar 0) (vCons (vC (.py (.int 0))) (vCons (vC (.py (.int 1000000000))) vNil)))))
def t_Scene_with_one (S_Scene_init : SI) : VS :=
  (sSeq (sSet 2 (vCal gLen (vCons (vUn (gFld "Scene" "groups") (vBor 0)) vNil)))
  (sSeq (sSet 3 (vLc [4, 8] (iEn (vCons (vUn (gFld "Scene" "line") (vBor 0)) vNil)) (tgTup 2 (tgCons (tgName 4) (tgCons (tgName 8) tgNil))) (vTst (vBin gEq (vBin gIx (vUn (gFld "Scene" "groups") (vBor 0)) (vBor 8)) (vBor 1))) (vVar 4)))
  (sSeq (sSet 4 (vIf (vTst (vBin gNe (vBor 3) (vLst vNil))) (vBin gAdd (vBin gIx (vBor 3) (vUn gNeg (vC (.py (.int 1))))) (vC (.py (.int 1)))) (vCal gLen (vCons (vUn (gFld "Scene" "line") (vBor 0)) vNil))))
  (sSeq (sSet 5 (vTup (vStar (vSl gSl (vUn (gFld "Scene" "line") (vBor 0)) oNo (oAt (vBor 4))) (vCons (vVar 2) (vStar (vSl gSl (vUn (gFld "Scene" "line") (vBor 0)) (oAt (vBor 4)) oNo) vNil)))))
  (sSeq (sSet 6 (vIf (vTst (vBin gNe (vBor 3) (vLst vNil))) (vTup (vStar (vUn (gFld "Scene" "mated") (vBor 0)) (vCons (vVar 2) vNil))) (vUn (gFld "Scene" "mated") (vBor 0))))
  (sSeq (sSet 7 (vBin gSub (vBin gAdd (vUn (gFld "Scene" "passed") (vBor 0)) (vCal gLen (vCons (vUn (gFld "Scene" "line") (vBor 0)) vNil))) (vBor 4)))
  (sRet (vMake "Scene" S_Scene_init (vCons (vTup (vStar (vUn (gFld "Scene" "groups") (vBor 0)) (vCons (vVar 1) vNil))) (vCons (vVar 5) (vCons (vUn (gFld "Scene" "done") (vBor 0)) (vCons (vUn (gFld "Scene" "left") (vBor 0)) (vCons (vVar 6) (vCons (vVar 7) (vCons (vBin gAdd (vUn (gFld "Scene" "letters") (vBor 0)) (vC (.py (.str "a")))) vNil)))))))))))))))
def t_Queue_scene_at (S_is_whole : SV) : VS :=
  (sSeq (sIf (vTst (vBin (gIsN false) (vBor 1) (vC (.py .none))))
  (sRet (vBin gIxS (vUn (gFldQ qNs "scenes") (vBor 0)) (vUn gNeg (vC (.py (.int 1))))))
  sNext)
  (sSeq (sIf (wNot (vTst (vCall S_is_whole (vCons (vVar 1) (vCons (vC (.py (.int 0))) (vCons (vCal gLen (vCons (vUn (gFldQ qNs "kept") (vBor 0)) vNil)) vNil))))))
  (sRaise1 "NoVersion" "version" (vVar 1))
  sNext)
  (sRet (vBin gIxS (vUn (gFldQ qNs "scenes") (vBor 0)) (vBor 1)))))
def t_Queue_row (S_Queue_scene_at : SV) : VS :=
  (sRet (vUn (gFld "Scene" "groups") (vMethQ qNs "scene_at" (fun _ => S_Queue_scene_at) (vObj 0) (vCons (vVar 1) vNil))))
def t_Queue_waiting (S_Queue_scene_at : SV) : VS :=
  (sRet (vUn (gFld "Scene" "line") (vMethQ qNs "scene_at" (fun _ => S_Queue_scene_at) (vObj 0) (vCons (vVar 1) vNil))))
def t_Queue_served (S_Queue_scene_at : SV) : VS :=
  (sRet (vUn (gFld "Scene" "done") (vMethQ qNs "scene_at" (fun _ => S_Queue_scene_at) (vObj 0) (vCons (vVar 1) vNil))))
def t_Queue_gone (S_Queue_scene_at : SV) : VS :=
  (sRet (vUn (gFld "Scene" "left") (vMethQ qNs "scene_at" (fun _ => S_Queue_scene_at) (vObj 0) (vCons (vVar 1) vNil))))
def t_Queue_people : VS :=
  (sRet (vCal gLen (vCons (vUn (gFld "Scene" "groups") (vBin gIxS (vUn (gFldQ qNs "scenes") (vBor 0)) (vUn gNeg (vC (.py (.int 1)))))) vNil)))
def t_Queue_length : VS :=
  (sRet (vCal gLen (vCons (vUn (gFld "Scene" "line") (vBin gIxS (vUn (gFldQ qNs "scenes") (vBor 0)) (vUn gNeg (vC (.py (.int 1)))))) vNil)))
def t_Queue_word : VS :=
  (sRet (vIf (vTst (vBin gEq (vUn (gFld "Scene" "left") (vBin gIxS (vUn (gFldQ qNs "scenes") (vBor 0)) (vUn gNeg (vC (.py (.int 1)))))) (vTup vNil))) (vUn (gFld "Scene" "letters") (vBin gIxS (vUn (gFldQ qNs "scenes") (vBor 0)) (vUn gNeg (vC (.py (.int 1)))))) (vC (.py .none))))
def t_Queue_told (S_Queue_length : SV) (S_Queue_people : SV) : VS :=
  (sRet (vJoin (jCons (vUn gFmt (vProp qNs S_Queue_people (vObj 0))) (jCons (vC (.py (.str " people, "))) (jCons (vUn gFmt (vProp qNs S_Queue_length (vObj 0))) (jCons (vC (.py (.str " waiting, "))) (jCons (vUn gFmt (vCal gLen (vCons (vUn (gFldQ qNs "kept") (vBor 0)) vNil))) (jCons (vC (.py (.str " edits"))) jNil))))))))
def t_Queue_str (S_Queue_told : Str → SV) : VS :=
  (sRet (vUn gFmt (vMethQ qNs "told" S_Queue_told (vObj 0) vNil)))
def t_Queue_require_idle : VS :=
  (sIf (vTst (vUn (gFldQ qNs "is_busy") (vBor 0)))
  (sRaise0 "Busy")
  sNext)
def t_Queue_require_waiting (S_is_whole : SV) (S_Queue_people : SV) : VS :=
  (sSeq (sIf (wNot (vTst (vCall S_is_whole (vCons (vVar 1) (vCons (vC (.py (.int 0))) (vCons (vBin gSub (vProp qNs S_Queue_people (vObj 0)) (vC (.py (.int 1)))) vNil))))))
  (sRaise1 "NoPerson" "value" (vVar 1))
  sNext)
  (sIf (vTst (vBin (gIn true) (vBor 1) (vUn (gFld "Scene" "line") (vBin gIxS (vUn (gFldQ qNs "scenes") (vBor 0)) (vUn gNeg (vC (.py (.int 1))))))))
  (sRaise1 "Absent" "person" (vVar 1))
  sNext))
def t_Scene_with_service (S_Scene_init : SI) : VS :=
  (sSeq (sSet 1 (vTup (vStar (vUn (gFld "Scene" "done") (vBor 0)) (vCons (vBin gIx (vUn (gFld "Scene" "line") (vBor 0)) (vC (.py (.int 0)))) vNil))))
  (sRet (vMake "Scene" S_Scene_init (vCons (vUn (gFld "Scene" "groups") (vBor 0)) (vCons (vSl gSl (vUn (gFld "Scene" "line") (vBor 0)) (oAt (vC (.py (.int 1)))) oNo) (vCons (vVar 1) (vCons (vUn (gFld "Scene" "left") (vBor 0)) (vCons (vUn (gFld "Scene" "mated") (vBor 0)) (vCons (vUn (gFld "Scene" "passed") (vBor 0)) (vCons (vBin gAdd (vUn (gFld "Scene" "letters") (vBor 0)) (vC (.py (.str "s")))) vNil))))))))))
def t_Scene_without_one (S_Scene_init : SI) : VS :=
  (sSeq (sSet 2 (vCal gTuple (vCons (vLc [3] (iS (vUn (gFld "Scene" "line") (vBor 0))) (tgName 3) (vTst (vBin gNe (vBor 3) (vBor 1))) (vVar 3)) vNil)))
  (sRet (vMake "Scene" S_Scene_init (vCons (vUn (gFld "Scene" "groups") (vBor 0)) (vCons (vVar 2) (vCons (vUn (gFld "Scene" "done") (vBor 0)) (vCons (vTup (vStar (vUn (gFld "Scene" "left") (vBor 0)) (vCons (vVar 1) vNil))) (vCons (vUn (gFld "Scene" "mated") (vBor 0)) (vCons (vUn (gFld "Scene" "passed") (vBor 0)) (vCons (vUn (gFld "Scene" "letters") (vBor 0)) vNil))))))))))
def t_Queue_scene_after (S_Queue_is_group : SV) (S_Queue_people : SV) (S_Scene_with_one : SV) (S_Queue_length : SV) (S_Scene_with_service : SV) (S_Queue_require_waiting : SV) (S_Scene_without_one : SV) : VS :=
  (sSeq (sIf (vTst (vBin gEq (vBin gIx (vBor 1) (vC (.py (.int 0)))) (vC (.py (.str "arrive")))))
  (sSeq (sIf (wNot (vTst (vStat qNs "is_group" S_Queue_is_group (vObj 0) (vCons (vBin gIx (vBor 1) (vC (.py (.int 1)))) vNil))))
  (sRaise1 "NoGroup" "value" (vBin gIx (vBor 1) (vC (.py (.int 1)))))
  sNext)
  (sSeq (sIf (vTst (vBin gEq (vProp qNs S_Queue_people (vObj 0)) (vC (.py (.int 40)))))
  (sRaise1 "TooLarge" "limit" (vC (.py (.int 40))))
  sNext)
  (sRet (vMeth "Scene" "with_one" S_Scene_with_one (vBin gIxS (vUn (gFldQ qNs "scenes") (vBor 0)) (vUn gNeg (vC (.py (.int 1))))) (vCons (vBin gIx (vBor 1) (vC (.py (.int 1)))) vNil)))))
  sNext)
  (sSeq (sIf (vTst (vBin gEq (vBin gIx (vBor 1) (vC (.py (.int 0)))) (vC (.py (.str "serve")))))
  (sSeq (sIf (vTst (vBin gEq (vProp qNs S_Queue_length (vObj 0)) (vC (.py (.int 0)))))
  (sRaise0 "Empty")
  sNext)
  (sRet (vMeth "Scene" "with_service" S_Scene_with_service (vBin gIxS (vUn (gFldQ qNs "scenes") (vBor 0)) (vUn gNeg (vC (.py (.int 1))))) vNil)))
  sNext)
  (sSeq (sExpr (vMethQ qNs "require_waiting" (fun _ => S_Queue_require_waiting) (vObj 0) (vCons (vBin gIx (vBor 1) (vC (.py (.int 1)))) vNil)))
  (sRet (vMeth "Scene" "without_one" S_Scene_without_one (vBin gIxS (vUn (gFldQ qNs "scenes") (vBor 0)) (vUn gNeg (vC (.py (.int 1))))) (vCons (vBin gIx (vBor 1) (vC (.py (.int 1)))) vNil))))))
def t_Queue_perform (S_Queue_scene_after : SV) : VS :=
  (sSeq (sIf (vTst (vBin gEq (vCal gLen (vCons (vUn (gFldQ qNs "kept") (vBor 0)) vNil)) (vConQ qNs "LIMIT" (.int 60) (vObj 0))))
  (sRaise0 "TooManyEdits")
  sNext)
  (sSeq (sFldQ 0 qNs "scenes" (vSnocS (vUn (gFldQ qNs "scenes") (vBor 0)) (vMethQ qNs "scene_after" (fun _ => S_Queue_scene_after) (vObj 0) (vCons (vVar 1) vNil))))
  (sSeq (sFldQ 0 qNs "kept" (vTup (vStar (vUn (gFldQ qNs "kept") (vBor 0)) (vCons (vVar 1) vNil))))
  (sRetO (vCal gLen (vCons (vUn (gFldQ qNs "kept") (vBor 0)) vNil))))))
def t_Queue_arrive (S_Queue_require_idle : SV) (S_Queue_perform : SM) : VS :=
  (sSeq (sExpr (vMethQ qNs "require_idle" (fun _ => S_Queue_require_idle) (vObj 0) vNil))
  (sRetM (mMeth qNs "perform" (fun _ => S_Queue_perform) 0 (vCons (vTup (vCons (vC (.py (.str "arrive"))) (vCons (vVar 1) vNil))) vNil))))
def t_Queue_serve (S_Queue_require_idle : SV) (S_Queue_perform : SM) : VS :=
  (sSeq (sExpr (vMethQ qNs "require_idle" (fun _ => S_Queue_require_idle) (vObj 0) vNil))
  (sRetM (mMeth qNs "perform" (fun _ => S_Queue_perform) 0 (vCons (vTup (vCons (vC (.py (.str "serve"))) vNil)) vNil))))
def t_Queue_go_away (S_Queue_require_idle : SV) (S_Queue_perform : SM) : VS :=
  (sSeq (sExpr (vMethQ qNs "require_idle" (fun _ => S_Queue_require_idle) (vObj 0) vNil))
  (sRetM (mMeth qNs "perform" (fun _ => S_Queue_perform) 0 (vCons (vTup (vCons (vC (.py (.str "go_away"))) (vCons (vVar 1) vNil))) vNil))))
end LawP
set_option Elab.async false
set_option linter.all false
set_option maxRecDepth 100000
set_option maxHeartbeats 4000000
namespace LawP
open PySem PySem.Spec PyProof.Rows L2 VL
end LawP
set_option Elab.async false
set_option linter.all false
set_option maxRecDepth 100000
set_option maxHeartbeats 4000000
namespace LawP
open PySem PySem.Spec PyProof.Rows L2 VL
end LawP
set_option Elab.async false
set_option linter.all false
set_option maxRecDepth 100000
set_option maxHeartbeats 4000000
namespace LawP
open PySem PySem.Spec PyProof.Rows L2 VL
end LawP
set_option Elab.async false
set_option linter.all false
namespace LawP
open PySem VL
/-! ### mates: the mathematics -/
/-- the latest person before i of the group g -/
def lastIn (row : List Int) (g : Int) (i : Nat) : Option Nat := ((List.range i).filter fun j => row[j]? == some g).getLast?
def mateOf (row : List Int) (i : Nat) : Option Nat := (row[i]?).bind fun g => lastIn row g i
def matesL (row : List Int) : List (Option Nat) := (List.range row.length).map (mateOf row)
end LawP
set_option Elab.async false
set_option linter.all false
set_option maxRecDepth 100000
set_option maxHeartbeats 4000000
namespace LawP
open PySem PySem.Spec PyProof.Rows L2 VL
/-! ### mates -/
def matesP (row : List Int) : PyData := .tuple ((matesL row).map oN)
@[simp] def S_mates : SV := fun ds Q _ => ∃ row : List Int, ds = [.py (tI row)] ∧ row.length ≤ 1000 ∧ Q (.py (matesP row))
/-! ### a drawn row -/
@[simp] def S_law_drawn (r : Addr) : SV
  | [.raw v, .py (.int m)], Q, _ => v = .ref r ∧ 1 ≤ m ∧ m ≤ 40 ∧ ∀ gs : List Int, gs ≠ [] → gs.length ≤ m → (∀ g ∈ gs, 0 ≤ g ∧ g ≤ 1000000000) → Q (.py (.tuple (gs.map PyData.int)))
  | _, _, _ => False
end LawP
set_option Elab.async false
set_option linter.all false
namespace LawP
open PySem VL
/-! ### words: the mathematics -/
def isL (c : Nat) : Bool := c == 97 || c == 115
/-- the places of signs that are no letters -/
def badW (w : List Nat) : List Nat := (w.zipIdx.filter fun p => !isL p.1).map (·.2)
/-- the first arrival or service too many: n persons, from place k on, behind a arrivals and s services -/
def scanP (n : Nat) : Nat → Nat → Nat → List Nat → PyData
  | _, _, _, [] => .none
  | k, a, s, c :: w => if c = 97 then (if a = n then .tuple [.int k, .str "arrival"] else scanP n (k + 1) (a + 1) s w) else (if s = a then .tuple [.int k, .str "service"] else scanP n (k + 1) a (s + 1) w)
def wErrL (n : Nat) (w : List Nat) : PyData := match badW w with
  | i :: _ => .tuple [.int (i : Nat), .str "letter"]
  | [] => scanP n 0 0 0 w
def wErr (n : Nat) : PyData → PyData
  | .str z => wErrL n (sl z)
  | _ => .tuple [.none, .str "string"]
/-- w is what is left of a history of n persons, behind a arrivals and s services -/
def goodW (n : Nat) : Nat → Nat → List Nat → Prop
  | a, s, [] => a = n ∧ s = n
  | a, s, c :: w => (c = 97 ∧ a < n ∧ goodW n (a + 1) s w) ∨ (c = 115 ∧ s < a ∧ goodW n a (s + 1) w)
/-- histories -/
def HistW (n : Nat) (w : List Nat) : Prop := goodW n 0 0 w
end LawP
set_option Elab.async false
set_option linter.all false
set_option maxRecDepth 100000
set_option maxHeartbeats 4000000
namespace LawP
open PySem PySem.Spec PyProof.Rows L2 VL
@[simp] theorem lit_a : Str.ofString "a" = mkS [97] := by decide +kernel
@[simp] theorem lit_s : Str.ofString "s" = mkS [115] := by decide +kernel
@[simp] theorem lit_e : Str.ofString "" = mkS [] := by decide +kernel
@[simp] theorem lit_as : Str.ofString "as" = mkS [97, 115] := by decide +kernel
def isSm (p : PyData) : Prop := ∀ z, p = .str z → z.length ≤ 100000
/-! ### word_error -/
@[simp] def S_word_error : SV
  | [.py (.tuple xs), .py p], Q, _ => isSm p ∧ Q (.py (wErr xs.length p))
  | _, _, _ => False
/-! ### is_history -/
def isHist (n : Nat) (p : PyData) : Bool := match p with
  | .str z => isNn (wErr n (.str z)) && decide (z.length = 2 * n)
  | _ => false
@[simp] def S_is_history : SV
  | [.py (.tuple xs), .py p], Q, _ => isSm p ∧ xs.length ≤ 100000 ∧ Q (.py (.bool (isHist xs.length p)))
  | _, _, _ => False
/-! ### what is drawn -/
def odds : List PyData := [.none, .bool true, .bool false, .int (-1), .int 0, .int 1, .int 40, .int 1000000001, .int 1000000000000000000000000000000000000000, .str "", .str "a", .str "as", .str "0", .tuple [], .list [], .dict [], .tuple [.int 0], .list [.int 0], .tuple [.bool true], .tuple [.str "a", .str "s"], .tuple [.int 0, .int 0], .str "none", .dict [(.str "a", .int 0)], .tuple [.int 1, .int 0]]
@[simp] def S_law_odd (r : Addr) : SV
  | [.raw v], Q, _ => v = .ref r ∧ ∀ p ∈ odds, Q (.py p)
  | _, _, _ => False
@[simp] def S_law_word (r : Addr) : SV
  | [.raw v, .py (.int m), .py (.int way)], Q, _ => v = .ref r ∧ 0 ≤ m ∧ m ≤ 1000 ∧ 0 ≤ way ∧ way < 5 ∧ ∀ w : List Nat, HistW m.toNat w → Q (.py (.str (mkS w)))
  | _, _, _ => False
/-! ### the law's own look at a word -/
@[simp] def S_law_fault : SV
  | [.py (.tuple xs), .py p], Q, _ => isSm p ∧ Q (.py (wErr xs.length p))
  | _, _, _ => False
/-! ### a word changed -/
@[simp] def S_law_twisted (r : Addr) : SV
  | [.raw v, .py (.str z)], Q, _ => v = .ref r ∧ z.length ≤ 50000 ∧ ∀ z' : Str, z'.length ≤ z.length + 10 → (∀ c ∈ sl z', c ∈ sl z ∨ c < 128) → Q (.py (.str z'))
  | _, _, _ => False
end LawP
set_option Elab.async false
set_option linter.all false
set_option maxRecDepth 100000
set_option maxHeartbeats 4000000
namespace LawP
open PySem PySem.Spec PyProof.Rows L2 VL
/-! ### sizes of words and what is told of them -/
end LawP
set_option Elab.async false
set_option linter.all false
set_option maxRecDepth 100000
set_option maxHeartbeats 4000000
namespace LawP
open PySem PySem.Spec PyProof.Rows L2 VL
/-! ### whole numbers within bounds -/
def isInt (p : PyData) (lo hi : Int) : Bool := match p with
  | .int i => decide (lo ≤ i) && decide (i ≤ hi)
  | _ => false
@[simp] def S_is_integer : SV
  | [.py p, .py (.int lo), .py (.int hi)], Q, _ => Q (.py (.bool (isInt p lo hi)))
  | _, _, _ => False
/-! ### counts and their words -/
/-- the first wrong place, b the count before -/
def badC : Int → Nat → List PyData → Option Nat
  | _, _, [] => none
  | b, k, .int c :: ps => if b ≤ c ∧ c ≤ k then badC c (k + 1) ps else some k
  | _, k, _ :: _ => some k
def wordP : Int → Nat → List PyData → List Nat
  | b, k, [] => List.replicate ((k : Int) - b).toNat 115
  | b, k, .int c :: ps => List.replicate (c - b).toNat 115 ++ 97 :: wordP c (k + 1) ps
  | _, _, _ :: _ => []
theorem isInt_ex {p : PyData} {lo hi : Int} (h : isInt p lo hi = true) : ∃ c, p = .int c ∧ lo ≤ c ∧ c ≤ hi := by
  cases p <;> simp [isInt] at h
  exact ⟨_, rfl, h.1, h.2⟩
@[simp] def S_word_with : SV
  | [.py (.tuple ps)], Q, _ => ps.length ≤ 40 ∧ badC 0 0 ps = none ∧ Q (.py (.str (mkS (wordP 0 0 ps))))
  | [.py (.list ps)], Q, _ => ps.length ≤ 40 ∧ badC 0 0 ps = none ∧ Q (.py (.str (mkS (wordP 0 0 ps))))
  | _, _, _ => False
@[simp] def wfQ (ps : List PyData) (Q : D → Prop) (E : Er → Prop) : Prop := if 1 ≤ ps.length ∧ ps.length ≤ 40 then (match badC 0 0 ps with | none => Q (.py (.str (mkS (wordP 0 0 ps)))) | some k => E ⟨"BadCount", [("index", .int (k : Nat))]⟩) else E ⟨"TooLarge", [("limit", .int 40)]⟩
@[simp] def S_word_from : SV
  | [.py (.tuple ps)], Q, E => wfQ ps Q E
  | _, _, _ => False
end LawP
set_option Elab.async false
set_option linter.all false
set_option maxRecDepth 100000
set_option maxHeartbeats 4000000
namespace LawP
open PySem PySem.Spec PyProof.Rows L2 VL
/-! M43: queues: scenes, edits, what an edit makes of a scene -/
structure Sc where
  g : List Int
  line : List Nat
  done : List Nat
  left : List Nat
  mated : List Nat
  passed : Nat
  w : List Nat
def Sc.nil : Sc := ⟨[], [], [], [], [], 0, []⟩
/-- where those of the group k stand -/
def hits (g : List Int) (line : List Nat) (k : Int) : List Nat := (List.range line.length).filter fun j => decide (g[line.getD j 0]? = some k)
/-- the place behind the last of them -/
def behind (g : List Int) (line : List Nat) (k : Int) : Option Nat := (hits g line k).getLast?.map (· + 1)
def Sc.plc (s : Sc) (k : Int) : Nat := (behind s.g s.line k).getD s.line.length
def Sc.arr (s : Sc) (k : Int) : Sc where
  g := s.g ++ [k]
  line := s.line.take (s.plc k) ++ s.g.length :: s.line.drop (s.plc k)
  done := s.done
  left := s.left
  mated := if behind s.g s.line k = none then s.mated else s.mated ++ [s.g.length]
  passed := s.passed + (s.line.length - s.plc k)
  w := s.w ++ [97]
def Sc.srv (s : Sc) : Sc := { s with line := s.line.tail, done := s.done ++ s.line.take 1, w := s.w ++ [115] }
def Sc.away (s : Sc) (p : Nat) : Sc := { s with line := s.line.filter (· ≠ p), left := s.left ++ [p] }
structure ScOk (s : Sc) : Prop where
  gl : s.g.length ≤ 40
  sum : s.line.length + s.done.length + s.left.length ≤ s.g.length
  lt : ∀ x ∈ s.line, x < s.g.length
  ml : s.mated.length ≤ s.g.length
  wl : s.w.length ≤ s.g.length + s.done.length
  pl : s.passed ≤ 40 * s.g.length
theorem hits_lt {g : List Int} {line : List Nat} {k : Int} {j : Nat} (h : j ∈ hits g line k) : j < line.length := List.mem_range.mp (List.mem_filter.mp h).1
theorem behind_le {g : List Int} {line : List Nat} {k : Int} {p : Nat} (h : behind g line k = some p) : 1 ≤ p ∧ p ≤ line.length := by
  unfold behind at h
  cases e : (hits g line k).getLast? with
  | none => rw [e] at h; cases h
  | some j =>
    rw [e] at h
    obtain rfl : j + 1 = p := by simpa using h
    have := hits_lt (List.mem_of_getLast? e)
    omega
theorem Sc.plc_le (s : Sc) (k : Int) : s.plc k ≤ s.line.length := by
  unfold Sc.plc
  cases e : behind s.g s.line k with
  | none => exact Nat.le_refl _
  | some p => exact (behind_le e).2
theorem ScOk.nil : ScOk Sc.nil := ⟨by simp [Sc.nil], by simp [Sc.nil], by simp [Sc.nil], by simp [Sc.nil], by simp [Sc.nil], by simp [Sc.nil]⟩
theorem ScOk.ll {s : Sc} (o : ScOk s) : s.line.length ≤ 40 := by have := o.gl; have := o.sum; omega
theorem ScOk.arr {s : Sc} (o : ScOk s) (k : Int) (h : s.g.length < 40) : ScOk (s.arr k) := by
  have p := s.plc_le k
  have hs := o.sum
  refine ⟨by simp [Sc.arr]; omega, ?_, fun x hx => ?_, ?_, ?_, ?_⟩
  · simp only [Sc.arr, List.length_append, List.length_cons, List.length_take, List.length_drop, List.length_nil]; omega
  · simp only [Sc.arr] at hx ⊢
    rw [List.length_append]
    rcases List.mem_append.mp hx with h1 | h1
    · have := o.lt x (List.mem_of_mem_take h1); simp; omega
    · rcases List.mem_cons.mp h1 with rfl | h1
      · simp
      · have := o.lt x (List.mem_of_mem_drop h1); simp; omega
  · have := o.ml
    simp only [Sc.arr]
    split <;> simp <;> omega
  · have := o.wl; simp [Sc.arr]; omega
  · have := o.pl; have := o.ll; simp [Sc.arr]; omega
theorem ScOk.srv {s : Sc} (o : ScOk s) (h : s.line ≠ []) : ScOk s.srv := by
  have hs := o.sum
  have := List.length_pos_iff.mpr h
  refine ⟨o.gl, ?_, fun x hx => o.lt x (List.mem_of_mem_tail hx), o.ml, ?_, o.pl⟩
  · simp only [Sc.srv, List.length_append, List.length_tail, List.length_take]; omega
  · have := o.wl; simp only [Sc.srv, List.length_append, List.length_take, List.length_cons, List.length_nil]; omega
theorem ScOk.away {s : Sc} (o : ScOk s) {p : Nat} (h : p ∈ s.line) : ScOk (s.away p) := by
  have hs := o.sum
  have hf : (s.line.filter (· ≠ p)).length < s.line.length := by
    have := List.length_filter_lt_length_iff_exists (p := fun x => decide (x ≠ p)) (l := s.line)
    exact this.mpr ⟨p, h, by simp⟩
  refine ⟨o.gl, ?_, fun x hx => o.lt x (List.mem_filter.mp hx).1, o.ml, o.wl, o.pl⟩
  simp only [Sc.away, List.length_append, List.length_cons, List.length_nil]
  omega
/-- the fields, as data -/
def scF (s : Sc) : List (Str × PyData) := [("groups", tI s.g), ("line", tN s.line), ("done", tN s.done), ("left", tN s.left), ("mated", tN s.mated), ("passed", pN s.passed), ("letters", .str (mkS s.w))]
/-! edits -/
inductive EdV where
  | arr (v : PyData)
  | srv
  | away (v : PyData)
def EdV.data : EdV → PyData
  | .arr v => .tuple [.str "arrive", v]
  | .srv => .tuple [.str "serve"]
  | .away v => .tuple [.str "go_away", v]
def natOf : PyData → Nat
  | .int i => i.toNat
  | _ => 0
def intOf : PyData → Int
  | .int i => i
  | _ => 0
/-- the error of an edit, or none -/
def stepEr (s : Sc) : EdV → Option Er
  | .arr v => if isInt v 0 1000000000 = true then (if s.g.length = 40 then some ⟨"TooLarge", [("limit", .int 40)]⟩ else none) else some ⟨"NoGroup", [("value", v)]⟩
  | .srv => if s.line = [] then some ⟨"Empty", []⟩ else none
  | .away v => if isInt v 0 ((s.g.length : Int) - 1) = true then (if natOf v ∈ s.line then none else some ⟨"Absent", [("person", v)]⟩) else some ⟨"NoPerson", [("value", v)]⟩
def stepSc (s : Sc) : EdV → Sc
  | .arr v => s.arr (intOf v)
  | .srv => s.srv
  | .away v => s.away (natOf v)
theorem ScOk.step {s : Sc} (o : ScOk s) {e : EdV} (h : stepEr s e = none) : ScOk (stepSc s e) := by
  cases e with
  | arr v =>
    simp only [stepEr] at h
    split at h
    · split at h
      · cases h
      · exact o.arr _ (by have := o.gl; omega)
    · cases h
  | srv =>
    simp only [stepEr] at h
    split at h
    · cases h
    · exact o.srv (by assumption)
  | away v =>
    simp only [stepEr] at h
    split at h
    · split at h
      · exact o.away (by assumption)
      · cases h
    · cases h
/-! queues -/
structure Qs where
  sc : List Sc
  kept : List EdV
  busy : Bool
def Qs.now (q : Qs) : Sc := q.sc.getLast?.getD Sc.nil
structure QOk (q : Qs) : Prop where
  len : q.sc.length = q.kept.length + 1
  kl : q.kept.length ≤ 60
  ok : ∀ s ∈ q.sc, ScOk s
theorem QOk.now {q : Qs} (o : QOk q) : ScOk q.now ∧ q.sc.getLast? = some q.now := by
  cases e : q.sc.getLast? with
  | none =>
    rw [List.getLast?_eq_none_iff] at e
    have := o.len
    rw [e] at this; simp at this
  | some s =>
    have : q.now = s := by unfold Qs.now; rw [e]; rfl
    rw [this]
    exact ⟨o.ok s (List.mem_of_getLast? e), rfl⟩
def qF (q : Qs) : FS := [("scenes", .tps "Scene" (q.sc.map scF)), ("kept", .py (.tuple (q.kept.map EdV.data))), ("is_busy", .py (.bool q.busy))]
abbrev qD (a : Addr) (n : Str) (q : Qs) : D := .rob a n (qF q)
def Qs.put (q : Qs) (e : EdV) : Qs := { q with sc := q.sc ++ [stepSc q.now e], kept := q.kept ++ [e] }
/-- the error of an edit of the queue, or none -/
def perfEr (q : Qs) (e : EdV) : Option Er := if q.kept.length = 60 then some ⟨"TooManyEdits", []⟩ else stepEr q.now e
theorem QOk.put {q : Qs} (o : QOk q) {e : EdV} (h : perfEr q e = none) : QOk (q.put e) := by
  unfold perfEr at h
  split at h
  · cases h
  · have := o.kl
    refine ⟨by simp [Qs.put, o.len], by simp [Qs.put]; omega, fun s hs => ?_⟩
    rcases List.mem_append.mp hs with hs | hs
    · exact o.ok s hs
    · rw [List.mem_singleton.mp hs]
      exact o.now.1.step h
theorem Qs.now_put (q : Qs) (e : EdV) : (q.put e).now = stepSc q.now e := by simp [Qs.now, Qs.put]
/-- several edits: the first error and the queue till there -/
def runQ : Qs → List EdV → Option Er × Qs
  | q, [] => (none, q)
  | q, e :: es => match perfEr q e with
    | some er => (some er, q)
    | none => runQ (q.put e) es
def Qs.nil : Qs := ⟨[Sc.nil], [], false⟩
end LawP
set_option Elab.async false
set_option linter.all false
set_option maxRecDepth 100000
set_option maxHeartbeats 4000000
namespace LawP
open PySem PySem.Spec PyProof.Rows L2 VL
end LawP
set_option Elab.async false
set_option linter.all false
namespace LawP
open PySem VL
/-! ### the queue: the mathematics -/
/-- p stands at place i -/
def insAt (ws : List Nat) (i p : Nat) : List Nat := ws.take i ++ p :: ws.drop i
/-- where p joins: behind the mate, or at the end -/
def joinPl (ws : List Nat) (m : Option Nat) : Nat := match m with
  | some k => if k ∈ ws then ws.idxOf k + 1 else ws.length
  | none => ws.length
def joinQ (ws : List Nat) (p : Nat) (m : Option Nat) : List Nat := insAt ws (joinPl ws m) p
/-! ### words done -/
/-- a beginning of a history, behind a arrivals and s services -/
def okP (n : Nat) : Nat → Nat → List Nat → Prop
  | _, _, [] => True
  | a, s, c :: w => (c = 97 ∧ a < n ∧ okP n (a + 1) s w) ∨ (c = 115 ∧ s < a ∧ okP n a (s + 1) w)
/-- letter, person, waiting: for each letter -/
def stepsL (row : List Int) : Nat → List Nat → List Nat → List (Nat × Nat × List Nat)
  | _, _, [] => []
  | a, ws, c :: w => if c = 97 then (c, a, joinQ ws a (mateOf row a)) :: stepsL row (a + 1) (joinQ ws a (mateOf row a)) w else match ws with
    | x :: ws' => (c, x, ws') :: stepsL row a ws' w
    | [] => []
/-- who was served -/
def servedL (st : List (Nat × Nat × List Nat)) : List Nat := (st.filter fun p => p.1 == 115).map fun p => p.2.1
/-- who waits at the end -/
def waitL (st : List (Nat × Nat × List Nat)) : List Nat := match st.getLast? with
  | some p => p.2.2
  | none => []
end LawP
set_option Elab.async false
set_option linter.all false
set_option maxRecDepth 100000
set_option maxHeartbeats 4000000
namespace LawP
open PySem PySem.Spec PyProof.Rows L2 VL
/-! ### queue_with -/
theorem plain_pN (ws : List Nat) : PyData.plainAll (ws.map pN) = true := by
  have : ws.map pN = (ws.map fun (n : Nat) => (n : Int)).map PyData.int := by rw [List.map_map]; rfl
  rw [this, plainAll_ints]
theorem depth_pN (ws : List Nat) : PyData.depthAll (ws.map pN) = 0 := by
  induction ws with
  | nil => rfl
  | cons w ws ih => rw [List.map_cons, depthAll_cons, ih]; rfl
@[simp] def S_queue_with : SV := fun ds Q _ => ∃ (ws : List Nat) (p : Nat) (m : Option Nat), ds = [.py (tN ws), .py (pN p), .py (oN m)] ∧ ws.length ≤ 100000 ∧ Q (.py (tN (joinQ ws p m)))
/-! ### steps_of -/
def stepP (p : Nat × Nat × List Nat) : PyData := .tuple [.str (mkS [p.1]), pN p.2.1, tN p.2.2]
@[simp] def S_steps_of : SV := fun ds Q _ => ∃ (row : List Int) (w : List Nat), ds = [.py (tI row), .py (.str (mkS w))] ∧ row.length ≤ 1000 ∧ w.length ≤ 100000 ∧ okP row.length 0 0 w ∧ Q (.py (.list ((stepsL row 0 [] w).map stepP)))
/-! ### check_word, run -/
@[simp] def S_check_word : SV
  | [.py (.tuple xs), .py p], Q, E => isSm p ∧ (wErr xs.length p = .none → Q (.py .none)) ∧ (wErr xs.length p ≠ .none → E ⟨"BadWord", [("error", wErr xs.length p)]⟩)
  | _, _, _ => False
def runP (row : List Int) (w : List Nat) : PyData := .tuple [tN (servedL (stepsL row 0 [] w)), tN (waitL (stepsL row 0 [] w))]
@[simp] def S_run : SV := fun ds Q E => ∃ (row : List Int) (p : PyData), ds = [.py (tI row), .py p] ∧ row.length ≤ 1000 ∧ isSm p ∧ (∀ w, p = .str (mkS w) → okP row.length 0 0 w → Q (.py (runP row w))) ∧ (wErr row.length p ≠ .none → E ⟨"BadWord", [("error", wErr row.length p)]⟩)
/-! ### the law's own queue -/
@[simp] def S_law_played : SV := fun ds Q _ => ∃ (row : List Int) (w : List Nat), ds = [.py (tI row), .py (.str (mkS w))] ∧ row.length ≤ 1000 ∧ w.length ≤ 100000 ∧ okP row.length 0 0 w ∧
  Q (.py (.list [tN (servedL (stepsL row 0 [] w)), tN (waitL (stepsL row 0 [] w)), .list ((stepsL row 0 [] w).map stepP)]))
/-! ### sizes -/
end LawP
set_option Elab.async false
set_option linter.all false
set_option maxRecDepth 100000
set_option maxHeartbeats 4000000
namespace LawP
open PySem PySem.Spec PyProof.Rows L2 VL
/-! LBA: what the queue's methods promise -/
theorem qF_scenes (q : Qs) : List.lookup (Str.ofString "scenes") (qF q) = some (.tps "Scene" (q.sc.map scF)) := rfl
theorem qF_kept (q : Qs) : List.lookup (Str.ofString "kept") (qF q) = some (.py (.tuple (q.kept.map EdV.data))) := rfl
theorem qF_busy (q : Qs) : List.lookup (Str.ofString "is_busy") (qF q) = some (.py (.bool q.busy)) := rfl
theorem scF_groups (s : Sc) : List.lookup (Str.ofString "groups") (scF s) = some (tI s.g) := rfl
theorem scF_line (s : Sc) : List.lookup (Str.ofString "line") (scF s) = some (tN s.line) := rfl
theorem scF_done (s : Sc) : List.lookup (Str.ofString "done") (scF s) = some (tN s.done) := rfl
theorem scF_left (s : Sc) : List.lookup (Str.ofString "left") (scF s) = some (tN s.left) := rfl
theorem scF_mated (s : Sc) : List.lookup (Str.ofString "mated") (scF s) = some (tN s.mated) := rfl
theorem scF_passed (s : Sc) : List.lookup (Str.ofString "passed") (scF s) = some (pN s.passed) := rfl
theorem scF_letters (s : Sc) : List.lookup (Str.ofString "letters") (scF s) = some (.str (mkS s.w)) := rfl
theorem at_last {α : Type} (xs : List α) (x : α) : atI (xs ++ [x]) (-1) = some x := by
  unfold atI
  have : ixN (xs.length + 1) (-1) = some xs.length := by unfold ixN; simp; omega
  rw [List.length_append, List.length_singleton, this]
  simp
theorem QOk.at_now {q : Qs} (o : QOk q) : atI (q.sc.map scF) (-1) = some (scF q.now) := by
  obtain ⟨ys, e⟩ := List.getLast?_eq_some_iff.mp o.now.2
  have h := at_last (ys.map scF) (scF q.now)
  rw [e, List.map_append]
  exact h
theorem isInt_nat {p : PyData} {hi : Int} (h : isInt p 0 hi = true) : ∃ k : Nat, p = .int k ∧ (k : Int) ≤ hi := by
  obtain ⟨c, rfl, h1, h2⟩ := isInt_ex h
  exact ⟨c.toNat, by rw [Int.toNat_of_nonneg h1], by omega⟩
@[simp] def S_is_whole : SV
  | [.py p, .py (.int lo), .py (.int hi)], Q, _ => Q (.py (.bool (isInt p lo hi)))
  | _, _, _ => False
theorem l_is_whole : ∀ ds Q E, S_is_whole ds Q E → t_is_whole (envOf 3 ds) (fin Q E)
  | [.py p, .py (.int lo), .py (.int hi)], Q, E, q => by
    cases p <;> simp [t_is_whole, isInt] at q ⊢ <;> try assumption
    rename_i i
    by_cases h : lo ≤ i <;> simp [h] at q ⊢ <;> exact q
def isGrp (p : PyData) : Bool := isInt p 0 1000000000
@[simp] def S_Queue_is_group : SV
  | [.py p], Q, _ => Q (.py (.bool (isGrp p)))
  | _, _, _ => False
theorem l_Queue_is_group : ∀ ds Q E, S_Queue_is_group ds Q E → t_Queue_is_group S_is_whole (envOf 1 ds) (fin Q E)
  | [.py p], Q, E, q => by
    simp [t_Queue_is_group]
    exact q
@[simp] def S_Scene_init : SI := fun ds Q _ => ∃ a b c d e f g : PyData, ds = [.py a, .py b, .py c, .py d, .py e, .py f, .py g] ∧ Q [("groups", a), ("line", b), ("done", c), ("left", d), ("mated", e), ("passed", f), ("letters", g)]
theorem l_Scene_init : ∀ x ds Q E, S_Scene_init ds Q E → t_Scene_init (envI x "Scene" 8 ds) (finI x "Scene" Q E) := by
  rintro x ds Q E ⟨a, b, c, d, e, f, g, rfl, q⟩
  simp (decide := true) [t_Scene_init, and_assoc]
  exact q
@[simp] def S_Queue_init : SM := fun x n fs ds1 ds2 Q _ => n ∈ qNs ∧ fs = [] ∧ ds1 = [] ∧ ds2 = [] ∧ Q (.py .none) (qF Qs.nil)
theorem l_Queue_init : ∀ x n fs ds1 ds2 Q E, S_Queue_init x n fs ds1 ds2 Q E → t_Queue_init S_Scene_init (envM x n fs 1 ds1 ds2) (finM x n ds1.length Q E) := by
  rintro x n fs ds1 ds2 Q E ⟨hn, rfl, rfl, rfl, q⟩
  simp [t_Queue_init, -qNs, hn, and_assoc]
  refine ⟨_, _, hn, rfl, rfl, _, _, hn, rfl, rfl, _, _, hn, rfl, rfl, ?_⟩
  simp (decide := true)
  exact q
@[simp] def S_Queue_people : SV := fun ds Q _ => ∃ a n q, ds = [qD a n q] ∧ n ∈ qNs ∧ QOk q ∧ Q (.py (pN q.now.g.length))
theorem l_Queue_people : ∀ ds Q E, S_Queue_people ds Q E → t_Queue_people (envOf 1 ds) (fin Q E) := by
  rintro ds Q E ⟨a, n, q, rfl, hn, o, k⟩
  simp [t_Queue_people, -qNs, hn, qF_scenes, o.at_now, scF_groups]
  exact k
@[simp] def S_Queue_length : SV := fun ds Q _ => ∃ a n q, ds = [qD a n q] ∧ n ∈ qNs ∧ QOk q ∧ Q (.py (pN q.now.line.length))
theorem l_Queue_length : ∀ ds Q E, S_Queue_length ds Q E → t_Queue_length (envOf 1 ds) (fin Q E) := by
  rintro ds Q E ⟨a, n, q, rfl, hn, o, k⟩
  simp [t_Queue_length, -qNs, hn, qF_scenes, o.at_now, scF_line]
  exact k
def oHead : List Nat → PyData
  | [] => .none
  | p :: _ => pN p
@[simp] def S_Queue_front : SV := fun ds Q _ => ∃ a n q, ds = [qD a n q] ∧ n ∈ qNs ∧ QOk q ∧ Q (.py (oHead q.now.line))
@[simp] def S_Queue_word : SV := fun ds Q _ => ∃ a n q, ds = [qD a n q] ∧ n ∈ qNs ∧ QOk q ∧ Q (.py (if q.now.left = [] then .str (mkS q.now.w) else .none))
theorem l_Queue_word : ∀ ds Q E, S_Queue_word ds Q E → t_Queue_word (envOf 1 ds) (fin Q E) := by
  rintro ds Q E ⟨a, n, q, rfl, hn, o, k⟩
  simp [t_Queue_word, -qNs, hn, qF_scenes, o.at_now, scF_left, scF_letters]
  by_cases e : q.now.left = [] <;> simp [e] at k ⊢ <;> exact k
@[simp] def S_Queue_edits : SV := fun ds Q _ => ∃ a n q, ds = [qD a n q] ∧ n ∈ qNs ∧ QOk q ∧ Q (.py (.tuple (q.kept.map EdV.data)))
@[simp] def S_Queue_len : SV := fun ds Q _ => ∃ a n q, ds = [qD a n q] ∧ n ∈ qNs ∧ QOk q ∧ Q (.py (pN q.kept.length))
def scAt (q : Qs) : PyData → Sc
  | .int i => q.sc.getD i.toNat Sc.nil
  | _ => q.now
def okV (q : Qs) (v : PyData) : Bool := isNn v || isInt v 0 q.kept.length
@[simp] def S_Queue_scene_at : SV := fun ds Q E => ∃ a n q v, ds = [qD a n q, .py v] ∧ n ∈ qNs ∧ QOk q ∧ if okV q v = true then (∀ a', Q (.obj a' "Scene" (scF (scAt q v)))) else E ⟨"NoVersion", [("version", v)]⟩
theorem l_Queue_scene_at : ∀ ds Q E, S_Queue_scene_at ds Q E → t_Queue_scene_at S_is_whole (envOf 2 ds) (fin Q E) := by
  rintro ds Q E ⟨a, n, q, v, rfl, hn, o, k⟩
  simp [t_Queue_scene_at, -qNs, -isNn, hn, qF_scenes, qF_kept, o.at_now]
  cases hv : isNn v with
  | true =>
    have : v = .none := by cases v <;> simp [isNn] at hv; rfl
    subst this
    simpa [okV, scAt, isNn] using k
  | false =>
    cases h : isInt v 0 q.kept.length with
    | false =>
      rw [show okV q v = false by simp only [okV, hv, h, Bool.or_false]] at k
      simp [-isNn] at k ⊢
      exact k
    | true =>
      rw [show okV q v = true by simp only [okV, hv, h, Bool.or_true]] at k
      obtain ⟨i, rfl, hi⟩ := isInt_nat h
      simp [-isNn] at k ⊢
      have hl : i < q.sc.length := by rw [o.len]; omega
      refine ⟨_, atI_map (List.getElem?_eq_getElem hl), fun a' => ?_⟩
      have := k a'
      simp only [scAt, Int.toNat_natCast, List.getD_eq_getElem?_getD, List.getElem?_eq_getElem hl, Option.getD_some] at this
      exact this
end LawP
set_option Elab.async false
set_option linter.all false
set_option maxRecDepth 100000
set_option maxHeartbeats 4000000
namespace LawP
open PySem PySem.Spec PyProof.Rows L2 VL
/-! LBA: what the queue's methods promise, the rest -/
theorem qF_hall (q : Qs) : hallF (qF q) := .inl rfl
theorem rob_ex {a : Addr} {n : Str} {fs : FS} {P : Addr → Str → FS → Prop} : (∃ a' n' fs', D.rob a n fs = .rob a' n' fs' ∧ P a' n' fs') ↔ P a n fs := ⟨fun ⟨_, _, _, e, h⟩ => by cases e; exact h, fun h => ⟨_, _, _, rfl, h⟩⟩
theorem vObj_s {a : Addr} {n : Str} {fs : FS} {r : VEnv} {Q : D → Prop} {E : Er → Prop} : vObj 0 (.shr (.rob a n fs) :: r) Q E ↔ hallF fs ∧ Q (.rob a n fs) :=
  ⟨fun ⟨_, _, _, e, h⟩ => by rcases e with e | e <;> cases e; exact h, fun h => ⟨_, _, _, .inr rfl, h⟩⟩
theorem vObj_o {a : Addr} {n : Str} {fs : FS} {r : VEnv} {Q : D → Prop} {E : Er → Prop} : vObj 0 (.own (.rob a n fs) :: r) Q E ↔ hallF fs ∧ Q (.rob a n fs) :=
  ⟨fun ⟨_, _, _, e, h⟩ => by rcases e with e | e <;> cases e; exact h, fun h => ⟨_, _, _, .inl rfl, h⟩⟩
theorem sFldQ_o {a : Addr} {n f : Str} {fs : FS} {r : VEnv} {t : VT} {ns : List Str} {De : VEnds} : sFldQ 0 ns f t (.own (.rob a n fs) :: r) De ↔ t (.own (.rob a n fs) :: r) (fun d => ∃ x, dFv d = some x ∧ n ∈ ns ∧ fs.length < 1000 ∧ De.nx (.own (.rob a n (putFV f x fs)) :: r)) (De.ex (.own (.rob a n fs) :: r)) := by
  unfold sFldQ
  have : (fun d => ∃ x a' n' fs', dFv d = some x ∧ n' ∈ ns ∧ (Slot.own (.rob a n fs) :: r)[0]? = some (.own (.rob a' n' fs')) ∧ fs'.length < 1000 ∧ De.nx ((Slot.own (.rob a n fs) :: r).set 0 (.own (.rob a' n' (putFV f x fs'))))) = fun d => ∃ x, dFv d = some x ∧ n ∈ ns ∧ fs.length < 1000 ∧ De.nx (.own (.rob a n (putFV f x fs)) :: r) := by
    funext d
    refine propext ⟨fun ⟨x, a', n', fs', h1, h2, h3, h4, h5⟩ => ?_, fun ⟨x, h1, h2, h3, h4⟩ => ⟨x, a, n, fs, h1, h2, rfl, h3, h4⟩⟩
    cases h3
    exact ⟨x, h1, h2, h4, h5⟩
  rw [this]
theorem mMeth_o {a : Addr} {n m : Str} {fs : FS} {r : VEnv} {ns : List Str} {S : Str → SM} {u : VA} {Q : D → VEnv → Prop} {E : Er → VEnv → Prop} : mMeth ns m S 0 u (.own (.rob a n fs) :: r) Q E ↔ n ∈ ns ∧ fs.lookup m = none ∧ u (.own (.rob a n fs) :: r) (fun ds => S n a n fs [] ds (fun d fs' => Q d (.own (.rob a n fs') :: r)) (fun er fs' => E er (.own (.rob a n fs') :: r))) (fun er => E er (.own (.rob a n fs) :: r)) :=
  ⟨fun ⟨_, _, _, e, h⟩ => by cases e; exact h, fun h => ⟨_, _, _, rfl, h⟩⟩
theorem two_ex {a : Addr} {n : Str} {P : Addr → Str → Prop} : (∃ a' n', (a = a' ∧ n = n') ∧ P a' n') ↔ P a n := ⟨fun ⟨_, _, ⟨e1, e2⟩, h⟩ => by subst e1; subst e2; exact h, fun h => ⟨_, _, ⟨rfl, rfl⟩, h⟩⟩
theorem decS : ∀ n : Nat, n ≤ 60 → (Str.ofString (n : Int).repr).length ≤ 2 ∧ n.log2 < 1920 := by decide
theorem len_app (a b : Str) : (a ++ b).length = a.length + b.length := by
  show (a.cps ++ b.cps).size = _
  simp [Str.length]
@[simp] theorem hallO_py (p : PyData) : hallO (.py p) = True := rfl
theorem hallO_sc (a : Addr) (n : Str) (s : Sc) : hallO (.obj a n (scF s)) := ⟨rfl, rfl⟩
theorem qF_scene_at (q : Qs) : List.lookup (Str.ofString "scene_at") (qF q) = none := rfl
theorem qF_told (q : Qs) : List.lookup (Str.ofString "told") (qF q) = none := rfl
theorem qF_is_group (q : Qs) : List.lookup (Str.ofString "is_group") (qF q) = none := rfl
theorem qF_require_idle (q : Qs) : List.lookup (Str.ofString "require_idle") (qF q) = none := rfl
theorem qF_require_waiting (q : Qs) : List.lookup (Str.ofString "require_waiting") (qF q) = none := rfl
theorem qF_scene_after (q : Qs) : List.lookup (Str.ofString "scene_after") (qF q) = none := rfl
theorem qF_LIMIT (q : Qs) : List.lookup (Str.ofString "LIMIT") (qF q) = none := rfl
theorem qF_perform (q : Qs) : List.lookup (Str.ofString "perform") (qF q) = none := rfl
abbrev SRow (f : Sc → PyData) : SV := fun ds Q E => ∃ a n q v, ds = [qD a n q, .py v] ∧ n ∈ qNs ∧ QOk q ∧ if okV q v = true then Q (.py (f (scAt q v))) else E ⟨"NoVersion", [("version", v)]⟩
@[simp] def S_Queue_row : SV := SRow fun s => tI s.g
@[simp] def S_Queue_waiting : SV := SRow fun s => tN s.line
@[simp] def S_Queue_served : SV := SRow fun s => tN s.done
@[simp] def S_Queue_gone : SV := SRow fun s => tN s.left
theorem l_Queue_row : ∀ ds Q E, S_Queue_row ds Q E → t_Queue_row S_Queue_scene_at (envOf 2 ds) (fin Q E) := by
  rintro ds Q E ⟨a, n, q, v, rfl, hn, o, k⟩
  simp [t_Queue_row, -qNs, -isNn, -List.lookup_eq_none_iff, -hallF, qF_hall, -hallO, hallO_sc, ↓rob_ex, two_ex, vObj_s, vObj_o, -vObj, sFldQ_o, -sFldQ, mMeth_o, -mMeth, qF_scene_at, hn, -S_Queue_scene_at, -gFld]
  refine ⟨a, n, q, v, rfl, hn, o, ?_⟩
  split at k
  · rename_i h; rw [if_pos h]; intro a'; exact ⟨hallO_sc _ _ _, rfl, _, scF_groups _, k⟩
  · rename_i h; rw [if_neg h]; exact k
theorem l_Queue_waiting : ∀ ds Q E, S_Queue_waiting ds Q E → t_Queue_waiting S_Queue_scene_at (envOf 2 ds) (fin Q E) := by
  rintro ds Q E ⟨a, n, q, v, rfl, hn, o, k⟩
  simp [t_Queue_waiting, -qNs, -isNn, -List.lookup_eq_none_iff, -hallF, qF_hall, -hallO, hallO_sc, ↓rob_ex, two_ex, vObj_s, vObj_o, -vObj, sFldQ_o, -sFldQ, mMeth_o, -mMeth, qF_scene_at, hn, -S_Queue_scene_at, -gFld]
  refine ⟨a, n, q, v, rfl, hn, o, ?_⟩
  split at k
  · rename_i h; rw [if_pos h]; intro a'; exact ⟨hallO_sc _ _ _, rfl, _, scF_line _, k⟩
  · rename_i h; rw [if_neg h]; exact k
theorem l_Queue_served : ∀ ds Q E, S_Queue_served ds Q E → t_Queue_served S_Queue_scene_at (envOf 2 ds) (fin Q E) := by
  rintro ds Q E ⟨a, n, q, v, rfl, hn, o, k⟩
  simp [t_Queue_served, -qNs, -isNn, -List.lookup_eq_none_iff, -hallF, qF_hall, -hallO, hallO_sc, ↓rob_ex, two_ex, vObj_s, vObj_o, -vObj, sFldQ_o, -sFldQ, mMeth_o, -mMeth, qF_scene_at, hn, -S_Queue_scene_at, -gFld]
  refine ⟨a, n, q, v, rfl, hn, o, ?_⟩
  split at k
  · rename_i h; rw [if_pos h]; intro a'; exact ⟨hallO_sc _ _ _, rfl, _, scF_done _, k⟩
  · rename_i h; rw [if_neg h]; exact k
theorem l_Queue_gone : ∀ ds Q E, S_Queue_gone ds Q E → t_Queue_gone S_Queue_scene_at (envOf 2 ds) (fin Q E) := by
  rintro ds Q E ⟨a, n, q, v, rfl, hn, o, k⟩
  simp [t_Queue_gone, -qNs, -isNn, -List.lookup_eq_none_iff, -hallF, qF_hall, -hallO, hallO_sc, ↓rob_ex, two_ex, vObj_s, vObj_o, -vObj, sFldQ_o, -sFldQ, mMeth_o, -mMeth, qF_scene_at, hn, -S_Queue_scene_at, -gFld]
  refine ⟨a, n, q, v, rfl, hn, o, ?_⟩
  split at k
  · rename_i h; rw [if_pos h]; intro a'; exact ⟨hallO_sc _ _ _, rfl, _, scF_left _, k⟩
  · rename_i h; rw [if_neg h]; exact k
/-! the text -/
def toldS (q : Qs) : Str := (toString (q.now.g.length : Int) : Str) ++ (" people, " : Str) ++ (toString (q.now.line.length : Int) : Str) ++ (" waiting, " : Str) ++ (toString (q.kept.length : Int) : Str) ++ (" edits" : Str)
@[simp] def S_Queue_told : SV := fun ds Q _ => ∃ a n q, ds = [qD a n q] ∧ n ∈ qNs ∧ QOk q ∧ Q (.py (.str (toldS q)))
theorem told_le {q : Qs} (o : QOk q) : (toldS q).length ≤ 100 := by
  have h1 := decS q.now.g.length (by have := o.now.1.gl; omega)
  have h2 := decS q.now.line.length (by have := o.now.1.ll; omega)
  have h3 := decS q.kept.length (by have := o.kl; omega)
  have e1 : (Str.ofString " people, ").length = 9 := by decide
  have e2 : (Str.ofString " waiting, ").length = 10 := by decide
  have e3 : (Str.ofString " edits").length = 6 := by decide
  show (Str.ofString (q.now.g.length : Int).repr ++ Str.ofString " people, " ++ Str.ofString (q.now.line.length : Int).repr ++ Str.ofString " waiting, " ++ Str.ofString (q.kept.length : Int).repr ++ Str.ofString " edits").length ≤ 100
  simp only [len_app]
  omega
theorem l_Queue_told : ∀ ds Q E, S_Queue_told ds Q E → t_Queue_told S_Queue_length S_Queue_people (envOf 1 ds) (fin Q E) := by
  rintro ds Q E ⟨a, n, q, rfl, hn, o, k⟩
  have h1 := decS q.now.g.length (by have := o.now.1.gl; omega)
  have h2 := decS q.now.line.length (by have := o.now.1.ll; omega)
  have h3 := decS q.kept.length (by have := o.kl; omega)
  have e1 : (Str.ofString " people, ").length = 9 := by decide
  have e2 : (Str.ofString " waiting, ").length = 10 := by decide
  have e3 : (Str.ofString " edits").length = 6 := by decide
  have e0 : Str.empty.length = 0 := rfl
  have e00 : ∀ x : Str, Str.empty ++ x = x := fun x => by
    show (⟨Str.empty.cps ++ x.cps⟩ : Str) = x
    cases x; simp [Str.empty]
  simp [t_Queue_told, -qNs, -List.lookup_eq_none_iff, -hallF, qF_hall, -hallO, hallO_sc, ↓rob_ex, two_ex, vObj_s, vObj_o, -vObj, sFldQ_o, -sFldQ, mMeth_o, -mMeth, qF_kept, hn, -S_Queue_length, -S_Queue_people, len_app]
  refine ⟨a, n, q, rfl, hn, o, trivial, h1.2, _, rfl, by simp only [e0]; exact Nat.le_trans (Nat.add_le_add_left h1.1 _) (by decide), by simp only [e0, e1]; exact Nat.le_trans (Nat.add_le_add_right (Nat.add_le_add_left h1.1 _) _) (by decide), a, n, q, rfl, hn, o, trivial, h2.2, _, rfl, ?_, ?_, ?_⟩
  · have := h1.1; have := h2.1; rw [e0, e1]; omega
  · have := h1.1; have := h2.1; rw [e0, e1, e2]; omega
  · have := h1.1; have := h2.1; have := h3.1
    refine ⟨h3.2, by rw [e0, e1, e2]; omega, by rw [e0, e1, e2, e3]; omega, ?_⟩
    rw [e00]
    exact k
@[simp] def S_Queue_str : SV := S_Queue_told
@[simp] def S_Queue_require_idle : SV := fun ds Q E => ∃ a n q, ds = [qD a n q] ∧ n ∈ qNs ∧ QOk q ∧ if q.busy = true then E ⟨"Busy", []⟩ else Q (.py .none)
theorem l_Queue_require_idle : ∀ ds Q E, S_Queue_require_idle ds Q E → t_Queue_require_idle (envOf 1 ds) (fin Q E) := by
  rintro ds Q E ⟨a, n, q, rfl, hn, o, k⟩
  simp [t_Queue_require_idle, -qNs, qF_busy, hn]
  cases h : q.busy <;> simp [h] at k ⊢ <;> exact k
@[simp] def S_Queue_require_waiting : SV := fun ds Q E => ∃ a n q v, ds = [qD a n q, .py v] ∧ n ∈ qNs ∧ QOk q ∧ match stepEr q.now (.away v) with | some er => E er | none => Q (.py .none)
theorem mem_pN {L : List Nat} {i : Nat} : (∀ x ∈ L, (pN x).eqv (.int (i : Int)) = false) ↔ i ∉ L := by
  constructor
  · intro h hi; have := h i hi; simp [pN] at this
  · intro h x hx
    simp only [pN, eqv_ii, beq_eq_false_iff_ne, ne_eq, Int.natCast_inj]
    rintro rfl; exact h hx
theorem l_Queue_require_waiting : ∀ ds Q E, S_Queue_require_waiting ds Q E → t_Queue_require_waiting S_is_whole S_Queue_people (envOf 2 ds) (fin Q E) := by
  rintro ds Q E ⟨a, n, q, v, rfl, hn, o, k⟩
  simp [t_Queue_require_waiting, -qNs, -List.lookup_eq_none_iff, -hallF, qF_hall, -hallO, hallO_sc, ↓rob_ex, two_ex, vObj_s, vObj_o, -vObj, sFldQ_o, -sFldQ, mMeth_o, -mMeth, qF_scenes, o.at_now, scF_line, hn, -S_Queue_people, -S_is_whole]
  refine ⟨a, n, q, rfl, hn, o, trivial, ?_⟩
  simp [show pN q.now.g.length = .int (q.now.g.length : Int) from rfl]
  simp only [stepEr] at k
  by_cases c : isInt v 0 ((q.now.g.length : Int) - 1) = true
  · obtain ⟨i, rfl, hi⟩ := isInt_nat c
    rw [if_pos c] at k ⊢
    have k' : if i ∈ q.now.line then Q (.py .none) else E ⟨"Absent", [("person", .int (i : Int))]⟩ := by
      by_cases m : i ∈ q.now.line
      · rw [if_pos m]
        have : natOf (.int (i : Int)) ∈ q.now.line := m
        rw [if_pos this] at k
        exact k
      · rw [if_neg m]
        have : ¬ natOf (.int (i : Int)) ∈ q.now.line := m
        rw [if_neg this] at k
        exact k
    refine ⟨rfl, plain_pN _, .inl (Nat.zero_le _), ?_⟩
    have e := mem_pN (L := q.now.line) (i := i)
    split
    · rename_i h
      rw [if_neg (e.mp h)] at k'
      exact k'
    · rename_i h
      rw [if_pos (Decidable.not_not.mp fun m => h (e.mpr m))] at k'
      exact k'
  · rw [if_neg c] at k ⊢
    exact k
/-! what an edit makes of a scene -/
theorem pys_mapD : ∀ xs : List PyData, pys (xs.map D.py) = some xs
  | [] => rfl
  | x :: xs => by simp [pys, pys_mapD xs]
theorem pys_snoc {α : Type} (f : α → PyData) (xs : List α) (d : PyData) : pys (xs.map (D.py ∘ f) ++ [D.py d]) = some (xs.map f ++ [d]) := by
  have : xs.map (D.py ∘ f) ++ [D.py d] = (xs.map f ++ [d]).map D.py := by simp
  rw [this, pys_mapD]
@[simp] def S_Scene_with_service : SV := fun ds Q _ => ∃ a s, ds = [.obj a "Scene" (scF s)] ∧ ScOk s ∧ s.line ≠ [] ∧ ∀ a', Q (.obj a' "Scene" (scF s.srv))
theorem l_Scene_with_service : ∀ ds Q E, S_Scene_with_service ds Q E → t_Scene_with_service S_Scene_init (envOf 2 ds) (fin Q E) := by
  rintro ds Q E ⟨a, s, rfl, o, hl, k⟩
  simp [t_Scene_with_service, scF_groups, scF_line, scF_done, scF_left, scF_mated, scF_passed, scF_letters, pys_snoc]
  have wl := o.wl
  have hs := o.sum
  have hg := o.gl
  cases e : s.line with
  | nil => exact absurd e hl
  | cons x r =>
    refine ⟨pN x, by simp, by omega, by omega, _, _, _, _, _, _, _, ⟨rfl, rfl, rfl, rfl, rfl, rfl, rfl⟩, fun a' => ?_⟩
    rw [cutL_drop _ (by decide)]
    have := k a'
    simp [scF, Sc.srv, e] at this ⊢
    exact this
@[simp] def S_Scene_without_one : SV := fun ds Q _ => ∃ a s p, ds = [.obj a "Scene" (scF s), .py (pN p)] ∧ ScOk s ∧ p ∈ s.line ∧ ∀ a', Q (.obj a' "Scene" (scF (s.away p)))
theorem l_Scene_without_one : ∀ ds Q E, S_Scene_without_one ds Q E → t_Scene_without_one S_Scene_init (envOf 4 ds) (fin Q E) := by
  rintro ds Q E ⟨a, s, p, rfl, o, hl, k⟩
  simp [t_Scene_without_one, scF_groups, scF_line, scF_done, scF_left, scF_mated, scF_passed, scF_letters, -lcGo, pys_snoc]
  have hs := o.sum
  have hg := o.gl
  have ll := o.ll
  refine lc_encF' pN (fun x => decide (x ≠ p)) pN (fun i x hx kk k1 k2 => ?_) (by omega) ?_
  · have e : (pN x).eqv (pN p) = decide (x = p) := by
      rw [show (pN x).eqv (pN p) = ((x : Int) == (p : Int)) from rfl, Bool.eq_iff_iff]
      simp only [beq_iff_eq, decide_eq_true_eq]
      omega
    simp [lcStep]
    refine ⟨rfl, rfl, .inl (Nat.zero_le _), ?_⟩
    show if (!(pN x).eqv (pN p)) = true then _ else _
    rw [e]
    by_cases h : x = p
    · simpa [h] using k2 (by simp [h])
    · simpa [h] using k1 (by simp [h])
  · refine ⟨by omega, _, _, _, _, _, _, _, ⟨rfl, rfl, rfl, rfl, rfl, rfl, rfl⟩, fun a' => ?_⟩
    have := k a'
    simp [scF, Sc.away] at this ⊢
    exact this
theorem zipL_range (L : List Nat) : L.zipIdx = (List.range L.length).map fun j => (L.getD j 0, j) := by
  refine List.ext_getElem (by simp) fun i h1 h2 => ?_
  simp at h1
  simp [h1]
theorem hits_eq (g : List Int) (L : List Nat) (k : Int) : (L.zipIdx.filter fun p => decide (g[p.1]? = some k)).map (fun p => pN p.2) = (hits g L k).map pN := by
  rw [zipL_range, List.filter_map, List.map_map]
  rfl
@[simp] def S_Scene_with_one : SV := fun ds Q _ => ∃ a s k, ds = [.obj a "Scene" (scF s), .py (.int k)] ∧ ScOk s ∧ s.g.length < 40 ∧ ∀ a', Q (.obj a' "Scene" (scF (s.arr k)))
theorem l_Scene_with_one : ∀ ds Q E, S_Scene_with_one ds Q E → t_Scene_with_one S_Scene_init (envOf 9 ds) (fin Q E) := by
  rintro ds Q E ⟨a, s, p, rfl, o, hl, k⟩
  simp [t_Scene_with_one, scF_groups, scF_line, scF_done, scF_left, scF_mated, scF_passed, scF_letters, -lcGo, enumP_enc, pys_snoc]
  have hs := o.sum
  have hg := o.gl
  have ll := o.ll
  have wl := o.wl
  refine lc_encF' (encE pN) (fun q => decide (s.g[q.1]? = some p)) (fun q => pN q.2) (fun i q hx kk k1 k2 => ?_) (by simp; omega) ?_
  · obtain ⟨x, hx', rfl⟩ := zipIdx_at hx
    have hlt := o.lt x (List.mem_of_getElem? hx')
    have e : s.g[x]? = some s.g[x] := List.getElem?_eq_getElem hlt
    simp [lcStep, encE, scF_groups, show pN x = .int (x : Int) from rfl]
    refine ⟨_, atI_map e, rfl, ?_⟩
    show if ((s.g[x] : Int) == p) = true then kk (some (pN i)) else kk none
    by_cases h : s.g[x] = p
    · rw [if_pos (by simpa using h)]; exact k1 (by simp [e, h])
    · rw [if_neg (by simpa using h)]; exact k2 (by simp [e, h])
  · rw [hits_eq]
    have pl := s.plc_le p
    have key : ∀ z : Nat, z ≤ s.line.length → pys (List.map D.py (cutL (List.map pN s.line) none (some (z : Int))) ++ D.py (PyData.int s.g.length) :: List.map D.py (cutL (List.map pN s.line) (some (z : Int)) none)) = some ((s.line.take z ++ s.g.length :: s.line.drop z).map pN) := fun z hz => by
      rw [cutL_take _ (by omega), cutL_drop _ (by omega), Int.toNat_natCast]
      have : List.map D.py (List.take z (s.line.map pN)) ++ D.py (PyData.int s.g.length) :: List.map D.py (List.drop z (s.line.map pN)) = ((s.line.take z ++ s.g.length :: s.line.drop z).map pN).map D.py := by simp [pN]
      rw [this, pys_mapD]
    have plen : ∀ z : Nat, z ≤ s.line.length → (List.map pN (List.take z s.line ++ s.g.length :: List.drop z s.line)).length ≤ 16777216 := fun z hz => by simp; omega
    have fin : ∀ (z : Nat) (md : List Nat), z = s.plc p → md = (if behind s.g s.line p = none then s.mated else s.mated ++ [s.g.length]) → s.g.length ≤ 16777215 ∧ s.w.length ≤ 16777215 ∧ ∃ a b c d_2 e f g, (PyData.tuple (List.map PyData.int s.g ++ [PyData.int p]) = a ∧ PyData.tuple (List.map pN (List.take z s.line ++ s.g.length :: List.drop z s.line)) = b ∧ PyData.tuple (List.map pN s.done) = c ∧ PyData.tuple (List.map pN s.left) = d_2 ∧ PyData.tuple (md.map pN) = e ∧ D.py (.int ((s.passed : Int) + s.line.length - z)) = D.py f ∧ PyData.str (mkS (s.w ++ [97])) = g) ∧ ∀ (a_1 : Addr), Q (D.obj a_1 (Str.ofString "Scene") [(Str.ofString "groups", a), (Str.ofString "line", b), (Str.ofString "done", c), (Str.ofString "left", d_2), (Str.ofString "mated", e), (Str.ofString "passed", f), (Str.ofString "letters", g)]) := fun z md hz hm => by
      refine ⟨by omega, by omega, _, _, _, _, _, _, _, ⟨rfl, rfl, rfl, rfl, rfl, rfl, rfl⟩, fun a' => ?_⟩
      have := k a'
      have ep : ((s.passed + (s.line.length - s.plc p) : Nat) : Int) = (s.passed : Int) + s.line.length - z := by omega
      subst hm hz
      simp only [scF, Sc.arr, tI, tN, List.map_append, List.map_cons, List.map_nil] at this ⊢
      rw [show pN (s.passed + (s.line.length - s.plc p)) = .int ((s.passed : Int) + s.line.length - s.plc p) from congrArg PyData.int ep] at this
      exact this
    rcases List.eq_nil_or_concat (hits s.g s.line p) with e | ⟨ys, j, e⟩
    · have eb : behind s.g s.line p = none := by unfold behind; rw [e]; rfl
      have ez : s.plc p = s.line.length := by unfold Sc.plc; rw [eb]; rfl
      rw [e]
      simp [key _ (Nat.le_refl _), show pN s.passed = .int (s.passed : Int) from rfl]
      refine ⟨by omega, ?_⟩
      have := fin _ s.mated ez.symm (by rw [if_pos eb])
      simpa using this
    · rw [List.concat_eq_append] at e
      have eb : behind s.g s.line p = some (j + 1) := by unfold behind; rw [e]; simp
      have ez : s.plc p = j + 1 := by unfold Sc.plc; rw [eb]; rfl
      have el := (behind_le eb).2
      have key2 := key (j + 1) el
      rw [show ((j + 1 : Nat) : Int) = (j : Int) + 1 from rfl] at key2
      have ml := o.ml
      rw [e]
      simp [at_last, key2, show pN j = .int (j : Int) from rfl, show pN s.passed = .int (s.passed : Int) from rfl]
      have := fin (j + 1) (s.mated ++ [s.g.length]) ez.symm (by rw [eb]; simp)
      refine ⟨by omega, by omega, ?_⟩
      simpa [show pN s.g.length = .int (s.g.length : Int) from rfl] using this
end LawP
set_option Elab.async false
set_option linter.all false
set_option maxRecDepth 100000
set_option maxHeartbeats 4000000
namespace LawP
open PySem PySem.Spec PyProof.Rows L2 VL
/-! LBA: what the queue's changing methods promise -/
@[simp] def S_Queue_scene_after : SV := fun ds Q E => ∃ a n q e, ds = [qD a n q, .py (EdV.data e)] ∧ n ∈ qNs ∧ QOk q ∧ match stepEr q.now e with | some er => E er | none => ∀ a', Q (.obj a' "Scene" (scF (stepSc q.now e)))
theorem l_Queue_scene_after : ∀ ds Q E, S_Queue_scene_after ds Q E → t_Queue_scene_after S_Queue_is_group S_Queue_people S_Scene_with_one S_Queue_length S_Scene_with_service S_Queue_require_waiting S_Scene_without_one (envOf 2 ds) (fin Q E) := by
  rintro ds Q E ⟨a, n, q, e, rfl, hn, o, k⟩
  have d1 : (Str.ofString "serve" == Str.ofString "arrive") = false := by decide
  have d2 : (Str.ofString "go_away" == Str.ofString "arrive") = false := by decide
  have d3 : (Str.ofString "go_away" == Str.ofString "serve") = false := by decide
  have gl := o.now.1.gl
  have ll := o.now.1.ll
  cases e with
  | arr v =>
    simp [t_Queue_scene_after, EdV.data, -qNs, -List.lookup_eq_none_iff, -hallF, qF_hall, -hallO, hallO_sc, ↓rob_ex, two_ex, vObj_s, vObj_o, -vObj, sFldQ_o, -sFldQ, mMeth_o, -mMeth, qF_scenes, qF_is_group, o.at_now, hn, -S_Queue_people, -S_Queue_length, -S_Queue_is_group, -S_Scene_with_one, -S_Scene_with_service, -S_Queue_require_waiting, -S_Scene_without_one]
    refine ⟨v, rfl, ?_⟩
    cases c : isGrp v with
    | false =>
      have c' : isInt v 0 1000000000 = false := c
      simp only [stepEr, c'] at k
      simp only [S_Queue_is_group, c]
      exact ⟨v, rfl, k⟩
    | true =>
      have c' : isInt v 0 1000000000 = true := c
      simp only [stepEr, c', if_true] at k
      simp only [S_Queue_is_group, c]
      obtain ⟨i, rfl, hi⟩ := isInt_nat c'
      refine ⟨a, n, q, rfl, hn, o, trivial, rfl, rfl, .inl (Nat.zero_le _), ?_⟩
      show if ((q.now.g.length : Int) == 40) = true then _ else _
      by_cases h : q.now.g.length = 40
      · rw [if_pos h] at k
        rw [if_pos (by simp [h])]
        exact k
      · rw [if_neg h] at k
        rw [if_neg (by simp; omega)]
        exact fun a1 => ⟨a1, _, ⟨rfl, rfl⟩, rfl, _, rfl, a1, q.now, i, rfl, o.now.1, by omega, k⟩
  | srv =>
    simp [t_Queue_scene_after, EdV.data, -qNs, -List.lookup_eq_none_iff, -hallF, qF_hall, -hallO, hallO_sc, ↓rob_ex, two_ex, vObj_s, vObj_o, -vObj, sFldQ_o, -sFldQ, mMeth_o, -mMeth, qF_scenes, qF_is_group, o.at_now, hn, -S_Queue_people, -S_Queue_length, -S_Queue_is_group, -S_Scene_with_one, -S_Scene_with_service, -S_Queue_require_waiting, -S_Scene_without_one, d1]
    refine ⟨a, n, q, rfl, hn, o, trivial, rfl, rfl, .inl (Nat.zero_le _), ?_⟩
    show if ((q.now.line.length : Int) == 0) = true then _ else _
    simp only [stepEr] at k
    by_cases h : q.now.line = []
    · rw [if_pos h] at k
      rw [if_pos (by simp [h])]
      exact k
    · rw [if_neg h] at k
      rw [if_neg (by simpa using h)]
      exact fun a1 => ⟨a1, _, ⟨rfl, rfl⟩, rfl, a1, q.now, rfl, o.now.1, h, k⟩
  | away v =>
    simp [t_Queue_scene_after, EdV.data, -qNs, -List.lookup_eq_none_iff, -hallF, qF_hall, -hallO, hallO_sc, ↓rob_ex, two_ex, vObj_s, vObj_o, -vObj, sFldQ_o, -sFldQ, mMeth_o, -mMeth, qF_scenes, qF_require_waiting, o.at_now, hn, -S_Queue_people, -S_Queue_length, -S_Queue_is_group, -S_Scene_with_one, -S_Scene_with_service, -S_Queue_require_waiting, -S_Scene_without_one, d2, d3]
    refine ⟨v, rfl, a, n, q, v, rfl, hn, o, ?_⟩
    cases h : stepEr q.now (.away v) with
    | some er => rw [h] at k; exact k
    | none =>
      rw [h] at k
      simp only [stepEr] at h
      split at h
      · rename_i c
        split at h
        · rename_i m
          obtain ⟨i, rfl, hi⟩ := isInt_nat c
          exact ⟨trivial, fun a1 => ⟨a1, _, ⟨rfl, rfl⟩, rfl, _, rfl, a1, q.now, i, rfl, o.now.1, m, k⟩⟩
        · cases h
      · cases h
@[simp] def S_Queue_perform : SM := fun x n fs ds1 ds2 Q E => ∃ q e, n ∈ qNs ∧ fs = qF q ∧ ds1 = [] ∧ ds2 = [.py (EdV.data e)] ∧ QOk q ∧ match perfEr q e with | some er => E er (qF q) | none => Q (.py (pN (q.kept.length + 1))) (qF (q.put e))
theorem l_Queue_perform : ∀ x n fs ds1 ds2 Q E, S_Queue_perform x n fs ds1 ds2 Q E → t_Queue_perform S_Queue_scene_after (envM x n fs 2 ds1 ds2) (finM x n ds1.length Q E) := by
  rintro x n fs ds1 ds2 Q E ⟨q, e, hn, rfl, rfl, rfl, o, k⟩
  simp [t_Queue_perform, -qNs, -List.lookup_eq_none_iff, -hallF, qF_hall, -hallO, hallO_sc, ↓rob_ex, two_ex, vObj_s, vObj_o, -vObj, sFldQ_o, -sFldQ, mMeth_o, -mMeth, qF_scenes, qF_kept, qF_LIMIT, qF_scene_after, o.at_now, hn, -S_Queue_scene_after]
  unfold perfEr at k
  by_cases h : q.kept.length = 60
  · rw [if_pos h] at k
    rw [if_pos (by omega)]
    exact k
  · rw [if_neg h] at k
    rw [if_neg (by omega)]
    refine ⟨_, _, ⟨rfl, rfl⟩, x, n, q, e, rfl, hn, o, ?_⟩
    have kl := o.kl
    have sl := o.len
    cases he : stepEr q.now e with
    | some er => rw [he] at k; exact k
    | none =>
      rw [he] at k
      have ep : pys (List.map D.py (q.kept.map EdV.data) ++ [D.py e.data]) = some (q.kept.map EdV.data ++ [e.data]) := by
        rw [show List.map D.py (q.kept.map EdV.data) ++ [D.py e.data] = (q.kept.map EdV.data ++ [e.data]).map D.py by simp, pys_mapD]
      refine fun a1 => ⟨hallO_sc _ _ _, a1, _, rfl, by simp; omega, (by show 3 < 1000; decide), _, rfl, q.kept.map EdV.data, .inl rfl, ?_⟩
      rw [ep]
      refine ⟨by simp; omega, (by show 3 < 1000; decide), _, rfl, ?_⟩
      have ef : putFV (Str.ofString "kept") (FV.py (PyData.tuple (q.kept.map EdV.data ++ [e.data]))) (putFV (Str.ofString "scenes") (FV.tps (Str.ofString "Scene") (List.map scF q.sc ++ [scF (stepSc q.now e)])) (qF q)) = qF (q.put e) := by
        simp only [qF, Qs.put, List.map_append, List.map_singleton]
        rfl
      rw [ef]
      have el : ((q.kept.map EdV.data ++ [e.data]).length : Int) = ((q.kept.length + 1 : Nat) : Int) := by simp
      show Q (D.py (PyData.int ((q.kept.map EdV.data ++ [e.data]).length : Int))) _
      rw [el]
      exact k
end LawP
set_option Elab.async false
set_option linter.all false
set_option maxRecDepth 100000
set_option maxHeartbeats 4000000
namespace LawP
open PySem PySem.Spec PyProof.Rows L2 VL
theorem perform_loop {x : Addr} {n : Str} {p : D} {t3 k3 b4 : Slot} (hn : n ∈ qNs) {De : VEnds} : ∀ {es : List EdV} {q : Qs} {s5 : Slot}, QOk q → (match runQ q es with | (some er, q') => ∀ s5, De.ex [.own (qD x n q'), .shr p, t3, k3, b4, s5] er | (none, q') => ∀ s5, De.nx [.own (qD x n q'), .shr p, t3, k3, b4, s5]) →
    forGo (tgName 5) (sExprM (mMeth qNs "perform" (fun _ => S_Queue_perform) 0 (vCons (vVar 5) vNil))) (es.map (D.py ∘ EdV.data)) [.own (qD x n q), .shr p, t3, k3, b4, s5] De
  | [], q, s5, o, h => h s5
  | e :: es, q, s5, o, h => by
    rw [List.map_cons]
    unfold forGo
    simp [-qNs, -List.lookup_eq_none_iff, -hallF, qF_hall, -hallO, hallO_sc, ↓rob_ex, two_ex, vObj_s, vObj_o, -vObj, sFldQ_o, -sFldQ, mMeth_o, -mMeth, -S_Queue_perform]
    refine ⟨hn, qF_perform q, q, e, hn, rfl, rfl, rfl, o, ?_⟩
    unfold runQ at h
    cases he : perfEr q e with
    | some er => rw [he] at h; exact h _
    | none =>
      rw [he] at h
      exact perform_loop hn (o.put he) h
@[simp] def S_Queue_perform_or_none : SM := fun x n fs ds1 ds2 Q E => ∃ q es p, n ∈ qNs ∧ fs = qF q ∧ ds1 = [] ∧ ds2 = [.py p] ∧ itemsOf p = some (es.map EdV.data) ∧ QOk q ∧ match runQ q es with | (some er, _) => E er (qF q) | (none, q') => Q (.py (pN q'.kept.length)) (qF q')
abbrev SEdit (f : List D → Option EdV) : SM := fun x n fs ds1 ds2 Q E => ∃ q e, n ∈ qNs ∧ fs = qF q ∧ ds1 = [] ∧ f ds2 = some e ∧ QOk q ∧ if q.busy = true then E ⟨"Busy", []⟩ (qF q) else match perfEr q e with | some er => E er (qF q) | none => Q (.py (pN (q.kept.length + 1))) (qF (q.put e))
@[simp] def S_Queue_arrive : SM := fun x n fs ds1 ds2 Q E => ∃ q v, n ∈ qNs ∧ fs = qF q ∧ ds1 = [] ∧ ds2 = [.py v] ∧ QOk q ∧ if q.busy = true then E ⟨"Busy", []⟩ (qF q) else match perfEr q (.arr v) with | some er => E er (qF q) | none => Q (.py (pN (q.kept.length + 1))) (qF (q.put (.arr v)))
theorem l_Queue_arrive : ∀ x n fs ds1 ds2 Q E, S_Queue_arrive x n fs ds1 ds2 Q E → t_Queue_arrive S_Queue_require_idle S_Queue_perform (envM x n fs 2 ds1 ds2) (finM x n ds1.length Q E) := by
  rintro x n fs ds1 ds2 Q E ⟨q, v, hn, rfl, rfl, rfl, o, k⟩
  simp [t_Queue_arrive, -qNs, -List.lookup_eq_none_iff, -hallF, qF_hall, -hallO, hallO_sc, ↓rob_ex, two_ex, vObj_s, vObj_o, -vObj, sFldQ_o, -sFldQ, mMeth_o, -mMeth, qF_require_idle, qF_perform, hn, -S_Queue_perform, -S_Queue_require_idle]
  refine ⟨x, n, q, rfl, hn, o, ?_⟩
  by_cases b : q.busy = true
  · rw [if_pos b] at k ⊢; exact k
  · rw [if_neg b] at k ⊢; exact ⟨trivial, q, .arr v, hn, rfl, rfl, rfl, o, k⟩
@[simp] def S_Queue_go_away : SM := fun x n fs ds1 ds2 Q E => ∃ q v, n ∈ qNs ∧ fs = qF q ∧ ds1 = [] ∧ ds2 = [.py v] ∧ QOk q ∧ if q.busy = true then E ⟨"Busy", []⟩ (qF q) else match perfEr q (.away v) with | some er => E er (qF q) | none => Q (.py (pN (q.kept.length + 1))) (qF (q.put (.away v)))
theorem l_Queue_go_away : ∀ x n fs ds1 ds2 Q E, S_Queue_go_away x n fs ds1 ds2 Q E → t_Queue_go_away S_Queue_require_idle S_Queue_perform (envM x n fs 2 ds1 ds2) (finM x n ds1.length Q E) := by
  rintro x n fs ds1 ds2 Q E ⟨q, v, hn, rfl, rfl, rfl, o, k⟩
  simp [t_Queue_go_away, -qNs, -List.lookup_eq_none_iff, -hallF, qF_hall, -hallO, hallO_sc, ↓rob_ex, two_ex, vObj_s, vObj_o, -vObj, sFldQ_o, -sFldQ, mMeth_o, -mMeth, qF_require_idle, qF_perform, hn, -S_Queue_perform, -S_Queue_require_idle]
  refine ⟨x, n, q, rfl, hn, o, ?_⟩
  by_cases b : q.busy = true
  · rw [if_pos b] at k ⊢; exact k
  · rw [if_neg b] at k ⊢; exact ⟨trivial, q, .away v, hn, rfl, rfl, rfl, o, k⟩
@[simp] def S_Queue_serve : SM := fun x n fs ds1 ds2 Q E => ∃ q, n ∈ qNs ∧ fs = qF q ∧ ds1 = [] ∧ ds2 = [] ∧ QOk q ∧ if q.busy = true then E ⟨"Busy", []⟩ (qF q) else match perfEr q .srv with | some er => E er (qF q) | none => Q (.py (pN (q.kept.length + 1))) (qF (q.put .srv))
theorem l_Queue_serve : ∀ x n fs ds1 ds2 Q E, S_Queue_serve x n fs ds1 ds2 Q E → t_Queue_serve S_Queue_require_idle S_Queue_perform (envM x n fs 1 ds1 ds2) (finM x n ds1.length Q E) := by
  rintro x n fs ds1 ds2 Q E ⟨q, hn, rfl, rfl, rfl, o, k⟩
  simp [t_Queue_serve, -qNs, -List.lookup_eq_none_iff, -hallF, qF_hall, -hallO, hallO_sc, ↓rob_ex, two_ex, vObj_s, vObj_o, -vObj, sFldQ_o, -sFldQ, mMeth_o, -mMeth, qF_require_idle, qF_perform, hn, -S_Queue_perform, -S_Queue_require_idle]
  refine ⟨x, n, q, rfl, hn, o, ?_⟩
  by_cases b : q.busy = true
  · rw [if_pos b] at k ⊢; exact k
  · rw [if_neg b] at k ⊢; exact ⟨trivial, q, .srv, hn, rfl, rfl, rfl, o, k⟩
@[simp] def S_Queue_arrive_all : SM := fun x n fs ds1 ds2 Q E => ∃ q vs p, n ∈ qNs ∧ fs = qF q ∧ ds1 = [] ∧ ds2 = [.py p] ∧ itemsOf p = some vs ∧ vs.length ≤ 1000000 ∧ QOk q ∧ if q.busy = true then E ⟨"Busy", []⟩ (qF q) else match runQ q (vs.map EdV.arr) with | (some er, _) => E er (qF q) | (none, q') => Q (.py (pN q'.kept.length)) (qF q')
@[simp] def S_Queue_serve_until : SM := fun x n fs ds1 ds2 Q E => ∃ q v, n ∈ qNs ∧ fs = qF q ∧ ds1 = [] ∧ ds2 = [.py v] ∧ QOk q ∧ if q.busy = true then E ⟨"Busy", []⟩ (qF q) else match stepEr q.now (.away v) with
  | some er => E er (qF q)
  | none => match runQ q (List.replicate (q.now.line.idxOf (natOf v) + 1) EdV.srv) with | (some er, _) => E er (qF q) | (none, q') => Q (.py (pN q'.kept.length)) (qF q')
/-- a queue whose people came ahead of the edits -/
def Qs.of (gs : List Int) : Qs := ⟨[gs.foldl Sc.arr Sc.nil], [], false⟩
@[simp] def S_Queue_of : SV := fun ds Q E => ∃ n vs, ds = [.cls n, .py (.tuple vs)] ∧ n ∈ qNs ∧ match vs.find? (fun v => !isGrp v) with | some v => E ⟨"NoGroup", [("value", v)]⟩ | none => if 40 < vs.length then E ⟨"TooLarge", [("limit", .int 40)]⟩ else ∀ a, Q (qD a n (Qs.of (vs.map intOf)))
end LawP
set_option Elab.async false
set_option linter.all false
set_option maxRecDepth 100000
set_option maxHeartbeats 4000000
namespace LawP
open PySem PySem.Spec PyProof.Rows L2 VL
def t_q_arrived : VS :=
  (sSeq (sAsg (vVar 0) (tgTup 7 (tgCons (tgName 2) (tgCons (tgName 3) (tgCons (tgName 4) (tgCons (tgName 5) (tgCons (tgName 6) (tgCons (tgName 7) (tgCons (tgName 8) tgNil)))))))))
  (sSeq (sSet 9 (vCal gMax (vCons (vBin gAdd (vLst (vCons (vC (.py (.int 0))) vNil)) (vLc [10] (iR1 (vCons (vCal gLen (vCons (vBor 3) vNil)) vNil)) (tgName 10) (vTst (vBin gEq (vBin gIx (vBor 2) (vBin gIx (vBor 3) (vBor 10))) (vBor 1))) (vBin gAdd (vBor 10) (vC (.py (.int 1)))))) vNil)))
  (sSeq (sIf (vTst (vBin gGt (vBor 9) (vC (.py (.int 0)))))
  (sSeq (sSet 6 (vBin gAdd (vBor 6) (vTup (vCons (vCal gLen (vCons (vBor 2) vNil)) vNil))))
  (sSet 7 (vBin gSub (vBin gAdd (vBor 7) (vCal gLen (vCons (vBor 3) vNil))) (vBor 9))))
  (sSet 9 (vCal gLen (vCons (vBor 3) vNil))))
  (sSeq (sSet 3 (vBin gAdd (vBin gAdd (vSl gSl (vBor 3) oNo (oAt (vBor 9))) (vTup (vCons (vCal gLen (vCons (vBor 2) vNil)) vNil))) (vSl gSl (vBor 3) (oAt (vBor 9)) oNo)))
  (sRet (vTup (vCons (vBin gAdd (vBor 2) (vTup (vCons (vVar 1) vNil))) (vCons (vVar 3) (vCons (vVar 4) (vCons (vVar 5) (vCons (vVar 6) (vCons (vVar 7) (vCons (vBin gAdd (vBor 8) (vC (.py (.str "a")))) vNil)))))))))))))
def t_q_first (S_q_arrived : SV) : VS :=
  (sSeq (sSet 1 (vTup (vCons (vTup vNil) (vCons (vTup vNil) (vCons (vTup vNil) (vCons (vTup vNil) (vCons (vTup vNil) (vCons (vC (.py (.int 0))) (vCons (vC (.py (.str ""))) vNil)))))))))
  (sSeq (sFor (iS (vVar 0)) (tgName 2)
  (sSet 1 (vCall S_q_arrived (vCons (vVar 1) (vCons (vVar 2) vNil)))))
  (sRet (vVar 1))))
def t_q_whole : VS :=
  (sRet (vAnd (vCal gIsi (vCons (vBor 0) (vCons (vC (.raw (.ty "int"))) vNil))) (vAnd (vNot (vCal gIsi (vCons (vBor 0) (vCons (vC (.raw (.ty "bool"))) vNil)))) (vChain gLe gLe (vBor 1) (vBor 0) (vBor 2)))))
def t_q_after (S_q_whole : SV) (S_q_arrived : SV) : VS :=
  (sSeq (sAsg (vVar 0) (tgTup 7 (tgCons (tgName 2) (tgCons (tgName 3) (tgCons (tgName 4) (tgCons (tgName 5) (tgCons (tgName 6) (tgCons (tgName 7) (tgCons (tgName 8) tgNil)))))))))
  (sSeq (sIf (vTst (vBin gEq (vBin gIx (vBor 1) (vC (.py (.int 0)))) (vC (.py (.str "arrive")))))
  (sSeq (sIf (wNot (vTst (vCall S_q_whole (vCons (vBin gIx (vBor 1) (vC (.py (.int 1)))) (vCons (vC (.py (.int 0))) (vCons (vBin gPow (vC (.py (.int 10))) (vC (.py (.int 9)))) vNil))))))
  (sRet (vLst (vCons (vLst (vCons (vC (.py (.str "kin"))) (vCons (vBin gIx (vBor 1) (vC (.py (.int 1)))) vNil))) (vCons (vVar 0) vNil))))
  sNext)
  (sRet (vIf (vTst (vBin gEq (vCal gLen (vCons (vBor 2) vNil)) (vC (.py (.int 40))))) (vLst (vCons (vLst (vCons (vC (.py (.str "large"))) (vCons (vC (.py (.int 40))) vNil))) (vCons (vVar 0) vNil))) (vLst (vCons (vC (.py .none)) (vCons (vCall S_q_arrived (vCons (vVar 0) (vCons (vBin gIx (vBor 1) (vC (.py (.int 1)))) vNil))) vNil))))))
  sNext)
  (sSeq (sIf (vTst (vBin gEq (vBin gIx (vBor 1) (vC (.py (.int 0)))) (vC (.py (.str "serve")))))
  (sSeq (sIf (vTst (vBin gEq (vBor 3) (vTup vNil)))
  (sRet (vLst (vCons (vLst (vCons (vC (.py (.str "empty"))) vNil)) (vCons (vVar 0) vNil))))
  sNext)
  (sRet (vLst (vCons (vC (.py .none)) (vCons (vTup (vCons (vVar 2) (vCons (vSl gSl (vBor 3) (oAt (vC (.py (.int 1)))) oNo) (vCons (vBin gAdd (vBor 4) (vSl gSl (vBor 3) oNo (oAt (vC (.py (.int 1)))))) (vCons (vVar 5) (vCons (vVar 6) (vCons (vVar 7) (vCons (vBin gAdd (vBor 8) (vC (.py (.str "s")))) vNil)))))))) vNil)))))
  sNext)
  (sSeq (sIf (wNot (vTst (vCall S_q_whole (vCons (vBin gIx (vBor 1) (vC (.py (.int 1)))) (vCons (vC (.py (.int 0))) (vCons (vBin gSub (vCal gLen (vCons (vBor 2) vNil)) (vC (.py (.int 1)))) vNil))))))
  (sRet (vLst (vCons (vLst (vCons (vC (.py (.str "person"))) (vCons (vBin gIx (vBor 1) (vC (.py (.int 1)))) vNil))) (vCons (vVar 0) vNil))))
  sNext)
  (sSeq (sIf (vTst (vBin (gIn true) (vBin gIx (vBor 1) (vC (.py (.int 1)))) (vBor 3)))
  (sRet (vLst (vCons (vLst (vCons (vC (.py (.str "absent"))) (vCons (vBin gIx (vBor 1) (vC (.py (.int 1)))) vNil))) (vCons (vVar 0) vNil))))
  sNext)
  (sSeq (sSet 9 (vCal gTuple (vCons (vLc [10] (iS (vBor 3)) (tgName 10) (vTst (vBin gNe (vBor 10) (vBin gIx (vBor 1) (vC (.py (.int 1)))))) (vVar 10)) vNil)))
  (sRet (vLst (vCons (vC (.py .none)) (vCons (vTup (vCons (vVar 2) (vCons (vVar 9) (vCons (vVar 4) (vCons (vBin gAdd (vBor 5) (vTup (vCons (vBin gIx (vBor 1) (vC (.py (.int 1)))) vNil))) (vCons (vVar 6) (vCons (vVar 7) (vCons (vVar 8) vNil)))))))) vNil))))))))))
def t_q_edit (S_law_grab : SV) : VS :=
  (sSeq (sPar [2, 3] (mCons false (vBin gIx (vBor 1) (vC (.py (.int 0)))) (mCons false (vBin gIx (vBor 1) (vC (.py (.int 1)))) mNil)))
  (sSeq (sSet 4 (vCall S_law_grab (vCons (vVar 0) (vCons (vC (.py (.int 8))) vNil))))
  (sSeq (sIf (wOr (wAnd (vTst (vBin gLt (vBor 4) (vC (.py (.int 4))))) (vTst (vBin gLt (vCal gLen (vCons (vBor 2) vNil)) (vC (.py (.int 40)))))) (vTst (vBin gEq (vBor 3) (vTup vNil))))
  (sSeq (sSet 5 (vBin gIx (vLst (vCons (vC (.py (.int 7))) (vCons (vC (.py (.int 2))) (vCons (vC (.py (.int 0))) (vCons (vBin gPow (vC (.py (.int 10))) (vC (.py (.int 9)))) (vCons (vC (.py (.int 5))) vNil)))))) (vCall S_law_grab (vCons (vVar 0) (vCons (vC (.py (.int 5))) vNil)))))
  (sSeq (sIf (wAnd (vTst (vBin gNe (vBor 2) (vTup vNil))) (vTst (vBin gEq (vCall S_law_grab (vCons (vVar 0) (vCons (vC (.py (.int 2))) vNil))) (vC (.py (.int 0))))))
  (sSet 5 (vBin gIx (vBor 2) (vCall S_law_grab (vCons (vVar 0) (vCons (vCal gLen (vCons (vBor 2) vNil)) vNil)))))
  sNext)
  (sRet (vTup (vCons (vC (.py (.str "arrive"))) (vCons (vVar 5) vNil))))))
  sNext)
  (sSeq (sIf (vTst (vBin gEq (vBor 4) (vC (.py (.int 7)))))
  (sRet (vTup (vCons (vC (.py (.str "go_away"))) (vCons (vBin gIx (vBor 3) (vCall S_law_grab (vCons (vVar 0) (vCons (vCal gLen (vCons (vBor 3) vNil)) vNil)))) vNil))))
  sNext)
  (sRet (vTup (vCons (vC (.py (.str "serve"))) vNil)))))))
def t_q_call (S_Queue_arrive : SM) (S_Queue_serve : SM) (S_Queue_go_away : SM) : VS :=
  (sSeq (sIf (vTst (vBin gEq (vBin gIx (vBor 1) (vC (.py (.int 0)))) (vC (.py (.str "arrive")))))
  (sRetM (mMeth qNs "arrive" (fun _ => S_Queue_arrive) 0 (vCons (vBin gIx (vBor 1) (vC (.py (.int 1)))) vNil)))
  sNext)
  (sRetM (mIf (vTst (vBin gEq (vBin gIx (vBor 1) (vC (.py (.int 0)))) (vC (.py (.str "serve"))))) (mMeth qNs "serve" (fun _ => S_Queue_serve) 0 vNil) (mMeth qNs "go_away" (fun _ => S_Queue_go_away) 0 (vCons (vBin gIx (vBor 1) (vC (.py (.int 1)))) vNil)))))
end LawP
set_option Elab.async false
set_option linter.all false
set_option maxRecDepth 100000
set_option maxHeartbeats 4000000
namespace LawP
open PySem PySem.Spec PyProof.Rows L2 VL
/-! M44: queues as the laws drive them -/
/-- a scene as the laws write it down -/
def scP (s : Sc) : PyData := .tuple [tI s.g, tN s.line, tN s.done, tN s.left, tN s.mated, pN s.passed, .str (mkS s.w)]
structure Lv (s : Sc) : Prop where
  ok : ScOk s
  gb : ∀ g ∈ s.g, 0 ≤ g ∧ g ≤ 1000000000
  wc : ∀ c ∈ s.w, c = 97 ∨ c = 115
  full : s.line.length + s.done.length + s.left.length = s.g.length
  dl : ∀ x, x ∈ s.done ∨ x ∈ s.left ∨ x ∈ s.mated → x < 40
  nd : s.line.Nodup
def EdOk : EdV → Prop
  | .arr v => ∃ i : Int, v = .int i ∧ 0 ≤ i ∧ i ≤ 1000000000
  | .srv => True
  | .away v => ∃ p : Nat, v = .int p ∧ p < 40
theorem Lv.nil : Lv Sc.nil := ⟨ScOk.nil, by simp [Sc.nil], by simp [Sc.nil], rfl, by simp [Sc.nil], by simp [Sc.nil]⟩
theorem Lv.arr {s : Sc} (l : Lv s) {k : Int} (h0 : 0 ≤ k) (h1 : k ≤ 1000000000) (h : s.g.length < 40) : Lv (s.arr k) := by
  have pl := s.plc_le k
  have fu := l.full
  refine ⟨l.ok.arr k h, fun g hg => ?_, fun c hc => ?_, ?_, fun x hx => ?_, ?_⟩
  · rcases List.mem_append.mp hg with hg | hg
    · exact l.gb g hg
    · rw [List.mem_singleton.mp hg]; exact ⟨h0, h1⟩
  · rcases List.mem_append.mp hc with hc | hc
    · exact l.wc c hc
    · exact .inl (List.mem_singleton.mp hc)
  · simp only [Sc.arr, List.length_append, List.length_cons, List.length_take, List.length_drop, List.length_nil]; omega
  · rcases hx with hx | hx | hx
    · exact l.dl x (.inl hx)
    · exact l.dl x (.inr (.inl hx))
    · simp only [Sc.arr] at hx
      split at hx
      · exact l.dl x (.inr (.inr hx))
      · rcases List.mem_append.mp hx with hx | hx
        · exact l.dl x (.inr (.inr hx))
        · rw [List.mem_singleton.mp hx]; exact h
  · have ng : s.g.length ∉ s.line := fun hm => by have := l.ok.lt _ hm; omega
    have e : List.Perm (s.g.length :: s.line) (s.line.take (s.plc k) ++ s.g.length :: s.line.drop (s.plc k)) := by
      have := (List.perm_middle (a := s.g.length) (l₁ := s.line.take (s.plc k)) (l₂ := s.line.drop (s.plc k))).symm
      rw [List.take_append_drop] at this
      exact this
    exact e.nodup_iff.mp (List.nodup_cons.mpr ⟨ng, l.nd⟩)
theorem Lv.srv {s : Sc} (l : Lv s) (h : s.line ≠ []) : Lv s.srv := by
  have fu := l.full
  have gl := l.ok.gl
  have := List.length_pos_iff.mpr h
  refine ⟨l.ok.srv h, l.gb, fun c hc => ?_, ?_, fun x hx => ?_, ?_⟩
  · rcases List.mem_append.mp hc with hc | hc
    · exact l.wc c hc
    · exact .inr (List.mem_singleton.mp hc)
  · simp only [Sc.srv, List.length_append, List.length_tail, List.length_take]; omega
  · rcases hx with hx | hx
    · rcases List.mem_append.mp hx with hx | hx
      · exact l.dl x (.inl hx)
      · have := l.ok.lt x (List.mem_of_mem_take hx); omega
    · exact l.dl x (.inr hx)
  · exact l.nd.sublist (List.tail_sublist _)
theorem Lv.away {s : Sc} (l : Lv s) {p : Nat} (h : p ∈ s.line) : Lv (s.away p) := by
  have fu := l.full
  have gl := l.ok.gl
  refine ⟨l.ok.away h, l.gb, l.wc, ?_, fun x hx => ?_, ?_⟩
  · have e : s.line.filter (· ≠ p) = s.line.erase p := by
      rw [l.nd.erase_eq_filter]
      congr 1
      funext x
      rw [Bool.eq_iff_iff]
      simp
    have := List.length_erase_of_mem h
    have := List.length_pos_of_mem h
    simp only [Sc.away, List.length_append, List.length_cons, List.length_nil, e]
    omega
  · rcases hx with hx | hx | hx
    · exact l.dl x (.inl hx)
    · rcases List.mem_append.mp hx with hx | hx
      · exact l.dl x (.inr (.inl hx))
      · rw [List.mem_singleton.mp hx]; have := l.ok.lt p h; omega
    · exact l.dl x (.inr (.inr hx))
  · exact l.nd.sublist List.filter_sublist
/-- what an edit's going through means -/
theorem step_arr {s : Sc} {v : PyData} (h : stepEr s (.arr v) = none) : isInt v 0 1000000000 = true ∧ s.g.length ≠ 40 := by
  simp only [stepEr] at h
  split at h
  · split at h
    · cases h
    · exact ⟨by assumption, by assumption⟩
  · cases h
theorem step_srv {s : Sc} (h : stepEr s .srv = none) : s.line ≠ [] := by
  simp only [stepEr] at h
  split at h
  · cases h
  · assumption
theorem step_away {s : Sc} {p : Nat} (h : stepEr s (.away (.int (p : Int))) = none) : p ∈ s.line := by
  simp only [stepEr] at h
  split at h
  · split at h
    · rename_i m; exact m
    · cases h
  · cases h
theorem Lv.step {s : Sc} (l : Lv s) {e : EdV} (ho : EdOk e) (h : stepEr s e = none) : Lv (stepSc s e) := by
  cases e with
  | arr v =>
    obtain ⟨i, rfl, h0, h1⟩ := ho
    exact l.arr h0 h1 (by have := (step_arr h).2; have := l.ok.gl; omega)
  | srv => exact l.srv (step_srv h)
  | away v =>
    obtain ⟨p, rfl, _⟩ := ho
    exact l.away (step_away h)
theorem step_cnt {s : Sc} (l : Lv s) {e : EdV} (ho : EdOk e) (h : stepEr s e = none) : (stepSc s e).g.length + (stepSc s e).done.length + (stepSc s e).left.length = s.g.length + s.done.length + s.left.length + 1 := by
  cases e with
  | arr v => simp [stepSc, Sc.arr]; omega
  | srv =>
    have := List.length_pos_iff.mpr (step_srv h)
    simp only [stepSc, Sc.srv, List.length_append, List.length_take]; omega
  | away v => simp [stepSc, Sc.away]; omega
structure LvQ (q : Qs) : Prop where
  ok : QOk q
  nb : q.busy = false
  lv : Lv q.now
  ed : ∀ e ∈ q.kept, EdOk e
  cnt : q.now.g.length + q.now.done.length + q.now.left.length ≤ 5 + q.kept.length
theorem perf_step {q : Qs} {e : EdV} (h : perfEr q e = none) : stepEr q.now e = none := by
  unfold perfEr at h
  split at h
  · cases h
  · exact h
theorem step_perf {q : Qs} {e : EdV} (h : stepEr q.now e = none) (hk : q.kept.length < 60) : perfEr q e = none := by
  unfold perfEr
  rw [if_neg (by omega)]
  exact h
theorem LvQ.put {q : Qs} (l : LvQ q) {e : EdV} (ho : EdOk e) (h : perfEr q e = none) : LvQ (q.put e) := by
  have hs := perf_step h
  refine ⟨l.ok.put h, l.nb, by rw [Qs.now_put]; exact l.lv.step ho hs, fun x hx => ?_, ?_⟩
  · rcases List.mem_append.mp hx with hx | hx
    · exact l.ed x hx
    · rw [List.mem_singleton.mp hx]; exact ho
  · rw [Qs.now_put, step_cnt l.lv ho hs]
    have := l.cnt
    simp [Qs.put]; omega
theorem LvQ.of {gs : List Int} (h : gs.length ≤ 5) (hg : ∀ g ∈ gs, 0 ≤ g ∧ g ≤ 1000000000) : LvQ ⟨[gs.foldl Sc.arr Sc.nil], [], false⟩ := by
  have go : ∀ (gs : List Int) (s : Sc), (∀ g ∈ gs, 0 ≤ g ∧ g ≤ 1000000000) → Lv s → s.g.length + gs.length ≤ 40 → Lv (gs.foldl Sc.arr s) ∧ (gs.foldl Sc.arr s).g.length = s.g.length + gs.length ∧ (gs.foldl Sc.arr s).done = s.done ∧ (gs.foldl Sc.arr s).left = s.left := by
    intro gs
    induction gs with
    | nil => exact fun s _ o _ => ⟨o, rfl, rfl, rfl⟩
    | cons g gs ih =>
      intro s hg o hl
      rw [List.length_cons] at hl
      have := hg g List.mem_cons_self
      obtain ⟨a, b, c, d⟩ := ih (s.arr g) (fun x hx => hg x (List.mem_cons_of_mem _ hx)) (o.arr this.1 this.2 (by omega)) (by simp [Sc.arr]; omega)
      exact ⟨a, by rw [List.foldl_cons, b]; simp [Sc.arr]; omega, c, d⟩
  obtain ⟨a, b, c, d⟩ := go gs Sc.nil hg Lv.nil (by simp [Sc.nil]; omega)
  refine ⟨⟨rfl, by simp, fun s hs => by rw [List.mem_singleton.mp hs]; exact a.ok⟩, rfl, a, (fun e he => by cases he), ?_⟩
  show (gs.foldl Sc.arr Sc.nil).g.length + (gs.foldl Sc.arr Sc.nil).done.length + (gs.foldl Sc.arr Sc.nil).left.length ≤ 5 + 0
  rw [b, c, d]
  simp [Sc.nil]
  omega
/-! what is shown -/
end LawP
set_option Elab.async false
set_option linter.all false
set_option maxRecDepth 100000
set_option maxHeartbeats 4000000
namespace LawP
open PySem PySem.Spec PyProof.Rows L2 VL
/-! LBB: the defs of the law that drives a queue -/
abbrev GsOk (gs : List Int) : Prop := ∀ g ∈ gs, 0 ≤ g ∧ g ≤ 1000000000
@[simp] def S_q_groups (r : Addr) : SV := fun ds Q _ => ∃ m : Nat, ds = [.raw (.ref r), .py (.int (m : Int))] ∧ m ≤ 100 ∧ ∀ gs : List Int, gs.length ≤ m → GsOk gs → Q (.py (tI gs))
theorem maxL_up : ∀ {L : List Nat} {a : Nat}, (a :: L).Pairwise (· < ·) → maxL ((a :: L).map fun n : Nat => (n : Int)) = (((a :: L).getLast (by simp) : Nat) : Int)
  | [], a, _ => rfl
  | b :: L, a, h => by
    have h2 := List.pairwise_cons.mp h
    have ih := maxL_up h2.2
    rw [List.getLast_cons (by simp), ← ih]
    show max (a : Int) (maxL ((b :: L).map fun n : Nat => (n : Int))) = _
    rw [ih]
    have : a < (b :: L).getLast (by simp) := h2.1 _ (List.getLast_mem _)
    omega
theorem hits_up (g : List Int) (L : List Nat) (k : Int) : (hits g L k).Pairwise (· < ·) := (List.pairwise_lt_range).sublist List.filter_sublist
theorem maxL_behind (g : List Int) (L : List Nat) (k : Int) : maxL (0 :: ((hits g L k).map fun j => ((j + 1 : Nat) : Int))) = (((behind g L k).getD 0 : Nat) : Int) := by
  have h := hits_up g L k
  have e : (0 :: ((hits g L k).map fun j => ((j + 1 : Nat) : Int))) = (0 :: (hits g L k).map (· + 1)).map fun n : Nat => (n : Int) := by simp
  rw [e, maxL_up]
  · congr 1
    unfold behind
    rcases List.eq_nil_or_concat (hits g L k) with e | ⟨ys, j, e⟩
    · rw [e]; rfl
    · rw [e, List.concat_eq_append]
      simp
      rw [List.getLast_cons (by simp)]
      simp
  · refine List.pairwise_cons.mpr ⟨fun x hx => ?_, ?_⟩
    · obtain ⟨j, _, rfl⟩ := List.mem_map.mp hx; omega
    · exact List.pairwise_map.mpr (h.imp fun h => by omega)
@[simp] def S_q_arrived : SV := fun ds Q _ => ∃ s k, ds = [.py (scP s), .py (.int k)] ∧ ScOk s ∧ s.g.length < 40 ∧ Q (.py (scP (s.arr k)))
theorem l_q_arrived : ∀ ds Q E, S_q_arrived ds Q E → t_q_arrived (envOf 11 ds) (fin Q E) := by
  rintro ds Q E ⟨s, k, rfl, o, hl, q⟩
  simp [t_q_arrived, -lcGo, scP, rangeP_eq]
  have ll := o.ll
  have gl := o.gl
  have wl := o.wl
  have ml := o.ml
  have hs := o.sum
  refine ⟨by omega, lc_encF' (encR 0) (fun j => decide (s.g[s.line.getD j 0]? = some k)) (fun j => pN (j + 1)) (fun i j hx kk k1 k2 => ?_) (by simp; omega) ?_⟩
  · have hj : j < s.line.length := by have := List.mem_of_getElem? hx; simpa using this
    have ej : s.line[j]? = some s.line[j] := List.getElem?_eq_getElem hj
    have hlt := o.lt _ (List.getElem_mem hj)
    have e : s.g[s.line[j]]? = some s.g[s.line[j]] := List.getElem?_eq_getElem hlt
    have ed : s.line.getD j 0 = s.line[j] := by simp [hj]
    rw [ed, e] at k1 k2
    simp [lcStep]
    refine ⟨_, atI_map ej, _, atI_map e, rfl, rfl, .inl (Nat.zero_le _), ?_⟩
    show if ((s.g[s.line[j]] : Int) == k) = true then kk (some (pN (j + 1))) else kk none
    by_cases h : s.g[s.line[j]] = k
    · rw [if_pos (by simpa using h)]; exact k1 (by simp [h])
    · rw [if_neg (by simpa using h)]; exact k2 (by simp [h])
  · have em : (List.range s.line.length).filter (fun j => decide (s.g[s.line.getD j 0]? = some k)) = hits s.g s.line k := rfl
    rw [em]
    have ea : allI (PyData.int 0 :: (hits s.g s.line k).map fun j => pN (j + 1)) = some (0 :: (hits s.g s.line k).map fun j => ((j + 1 : Nat) : Int)) := by
      have : (PyData.int 0 :: (hits s.g s.line k).map fun j => pN (j + 1)) = (0 :: (hits s.g s.line k).map fun j => ((j + 1 : Nat) : Int)).map PyData.int := by simp [pN]
      rw [this, allI_map]
    have hlen : (hits s.g s.line k).length ≤ 40 := by
      have := List.length_filter_le (fun j => decide (s.g[s.line.getD j 0]? = some k)) (List.range s.line.length)
      rw [List.length_range] at this
      unfold hits; omega
    refine ⟨by simp; omega, _, ea, by simp, ?_⟩
    rw [maxL_behind]
    cases eb : behind s.g s.line k with
    | none =>
      have ez : s.plc k = s.line.length := by unfold Sc.plc; rw [eb]; rfl
      simp
      have e1 : cutL (List.map pN s.line) none (some (s.line.length : Int)) = s.line.map pN := by rw [cutL_take _ (by omega), Int.toNat_natCast, List.take_of_length_le (by simp)]
      have e2 : cutL (List.map pN s.line) (some (s.line.length : Int)) none = [] := by rw [cutL_drop _ (by omega)]; simp
      rw [e1, e2]
      refine ⟨by simp; omega, by simp; omega, by omega, by omega, ?_⟩
      have es : scP (s.arr k) = PyData.tuple [PyData.tuple (List.map PyData.int s.g ++ [PyData.int k]), PyData.tuple (s.line.map pN ++ [PyData.int s.g.length]), PyData.tuple (List.map pN s.done), PyData.tuple (List.map pN s.left), PyData.tuple (List.map pN s.mated), pN s.passed, PyData.str (mkS (s.w ++ [97]))] := by
        simp [scP, Sc.arr, ez, eb, pN]
      rw [es] at q
      exact q
    | some z =>
      have ez : s.plc k = z := by unfold Sc.plc; rw [eb]; rfl
      have ⟨z0, z1⟩ := behind_le eb
      simp [show pN s.passed = .int (s.passed : Int) from rfl]
      rw [if_pos (by omega)]
      have e1 : cutL (List.map pN s.line) none (some (z : Int)) = (s.line.take z).map pN := by rw [cutL_take _ (by omega)]; simp
      have e2 : cutL (List.map pN s.line) (some (z : Int)) none = (s.line.drop z).map pN := by rw [cutL_drop _ (by omega)]; simp
      rw [e1, e2]
      refine ⟨by omega, by simp; omega, by simp; omega, by omega, by omega, ?_⟩
      have es : scP (s.arr k) = PyData.tuple [PyData.tuple (List.map PyData.int s.g ++ [PyData.int k]), PyData.tuple ((s.line.take z).map pN ++ PyData.int s.g.length :: (s.line.drop z).map pN), PyData.tuple (List.map pN s.done), PyData.tuple (List.map pN s.left), PyData.tuple (List.map pN s.mated ++ [PyData.int s.g.length]), PyData.int ((s.passed : Int) + s.line.length - z), PyData.str (mkS (s.w ++ [97]))] := by
        simp [scP, Sc.arr, ez, eb, pN]
        omega
      rw [es] at q
      exact q
@[simp] def S_q_first : SV := fun ds Q _ => ∃ gs : List Int, ds = [.py (tI gs)] ∧ gs.length ≤ 40 ∧ Q (.py (scP (gs.foldl Sc.arr Sc.nil)))
theorem first_loop {x0 : Slot} {De : VEnds} : ∀ {gs : List Int} {s : Sc} {s2 : Slot}, ScOk s → s.g.length + gs.length ≤ 40 → (∀ s2, De.nx [x0, .shr (.py (scP (gs.foldl Sc.arr s))), s2]) →
    forGo (tgName 2) (sSet 1 (vCall S_q_arrived (vCons (vVar 1) (vCons (vVar 2) vNil)))) (gs.map (D.py ∘ PyData.int)) [x0, .shr (.py (scP s)), s2] De
  | [], s, s2, _, _, h => h s2
  | g :: gs, s, s2, o, hl, h => by
    rw [List.length_cons] at hl
    rw [List.map_cons]
    unfold forGo
    simp [-forGo, -S_q_arrived]
    exact ⟨s, g, rfl, o, by omega, first_loop (o.arr g (by omega)) (by simp [Sc.arr]; omega) h⟩
theorem l_q_first : ∀ ds Q E, S_q_first ds Q E → t_q_first S_q_arrived (envOf 3 ds) (fin Q E) := by
  rintro ds Q E ⟨gs, rfl, hl, q⟩
  simp [t_q_first, -forGo, -S_q_arrived]
  exact first_loop (s := Sc.nil) ScOk.nil (by simp [Sc.nil]; omega) fun s2 => ⟨_, rfl, q⟩
@[simp] def S_q_made : SV := fun ds Q _ => ∃ gs : List Int, ds = [.py (tI gs)] ∧ (gs.length ≤ 3 ∨ gs.length = 5) ∧ GsOk gs ∧ ∀ a, Q (qD a "Queue" (Qs.of gs))
@[simp] def S_q_begun (r : Addr) : SL := fun ds Q _ => ds = [.raw (.ref r)] ∧ ∀ gs : List Int, gs.length ≤ 5 → GsOk gs → ∀ a, Q (qD a "Queue" (Qs.of gs)) [.py (scP (Qs.of gs).now)]
def seenP (s : Sc) (es : List EdV) (t : Str) : PyData := .list [tI s.g, tN s.line, tN s.done, tN s.left, pN s.g.length, pN s.line.length, oHead s.line, (if s.left = [] then .str (mkS s.w) else .none), .tuple (es.map EdV.data), pN es.length, .str t]
@[simp] def S_q_seen : SV := fun ds Q _ => ∃ a n q, ds = [qD a n q] ∧ n ∈ qNs ∧ QOk q ∧ Q (.py (seenP q.now q.kept (toldS q)))
theorem qF_waiting (q : Qs) : List.lookup (Str.ofString "waiting") (qF q) = none := rfl
theorem qF_served (q : Qs) : List.lookup (Str.ofString "served") (qF q) = none := rfl
theorem qF_gone (q : Qs) : List.lookup (Str.ofString "gone") (qF q) = none := rfl
theorem qF_word (q : Qs) : List.lookup (Str.ofString "word") (qF q) = none := rfl
theorem now_waiting {a : Addr} {n : Str} {q : Qs} {Q : D → Prop} {E : Er → Prop} (hn : n ∈ qNs) (o : QOk q) (h : Q (.py (tN q.now.line))) : S_Queue_waiting [qD a n q, .py .none] Q E := ⟨a, n, q, .none, rfl, hn, o, by rw [if_pos (show okV q .none = true from rfl)]; exact h⟩
theorem now_served {a : Addr} {n : Str} {q : Qs} {Q : D → Prop} {E : Er → Prop} (hn : n ∈ qNs) (o : QOk q) (h : Q (.py (tN q.now.done))) : S_Queue_served [qD a n q, .py .none] Q E := ⟨a, n, q, .none, rfl, hn, o, by rw [if_pos (show okV q .none = true from rfl)]; exact h⟩
theorem now_gone {a : Addr} {n : Str} {q : Qs} {Q : D → Prop} {E : Er → Prop} (hn : n ∈ qNs) (o : QOk q) (h : Q (.py (tN q.now.left))) : S_Queue_gone [qD a n q, .py .none] Q E := ⟨a, n, q, .none, rfl, hn, o, by rw [if_pos (show okV q .none = true from rfl)]; exact h⟩
@[simp] def S_q_due : SV := fun ds Q _ => ∃ q : Qs, ds = [.py (scP q.now), .py (.list (q.kept.map EdV.data))] ∧ QOk q ∧ Q (.py (seenP q.now q.kept (toldS q)))
@[simp] def S_q_whole : SV
  | [.py p, .py (.int lo), .py (.int hi)], Q, _ => Q (.py (.bool (isInt p lo hi)))
  | _, _, _ => False
theorem l_q_whole : ∀ ds Q E, S_q_whole ds Q E → t_q_whole (envOf 3 ds) (fin Q E)
  | [.py p, .py (.int lo), .py (.int hi)], Q, E, q => by
    cases p <;> simp [t_q_whole, isInt] at q ⊢ <;> try assumption
    rename_i i
    by_cases h : lo ≤ i <;> simp [h] at q ⊢ <;> exact q
end LawP
set_option Elab.async false
set_option linter.all false
set_option maxRecDepth 100000
set_option maxHeartbeats 4000000
namespace LawP
open PySem PySem.Spec PyProof.Rows L2 VL
@[simp] def S_q_after : SV := fun ds Q _ => ∃ s e, ds = [.py (scP s), .py (EdV.data e)] ∧ Lv s ∧ EdOk e ∧ stepEr s e = none ∧ Q (.py (.list [.none, scP (stepSc s e)]))
theorem l_q_after : ∀ ds Q E, S_q_after ds Q E → t_q_after S_q_whole S_q_arrived (envOf 11 ds) (fin Q E) := by
  rintro ds Q E ⟨s, e, rfl, l, ho, h, k⟩
  have d1 : (Str.ofString "serve" == Str.ofString "arrive") = false := by decide
  have d2 : (Str.ofString "go_away" == Str.ofString "arrive") = false := by decide
  have d3 : (Str.ofString "go_away" == Str.ofString "serve") = false := by decide
  have ll := l.ok.ll
  have gl := l.ok.gl
  have wl := l.ok.wl
  have hs := l.ok.sum
  cases e with
  | arr v =>
    obtain ⟨i, rfl, h0, h1⟩ := ho
    obtain ⟨hi, hg⟩ := step_arr h
    have hi' : (0 ≤ i ∧ i ≤ 1000000000) := ⟨h0, h1⟩
    simp [t_q_after, EdV.data, scP, -S_q_arrived, -S_q_whole]
    refine ⟨_, rfl, ?_⟩
    have hw : isInt (.int i) 0 1000000000 = true := hi
    simp only [S_q_whole, hw, if_true]
    rw [if_neg (by omega)]
    exact ⟨_, rfl, s, i, rfl, l.ok, by omega, _, rfl, by simp, k⟩
  | srv =>
    have hn := step_srv h
    simp [t_q_after, EdV.data, scP, -S_q_arrived, -S_q_whole, d1]
    rw [if_neg hn]
    have e1 : cutL (List.map pN s.line) none (some 1) = (s.line.take 1).map pN := by rw [cutL_take _ (by decide)]; simp
    have e2 : cutL (List.map pN s.line) (some 1) none = s.line.tail.map pN := by rw [cutL_drop _ (by decide)]; simp
    rw [e1, e2]
    refine ⟨by simp; omega, by omega, ?_⟩
    simp [scP, stepSc, Sc.srv] at k ⊢
    exact k
  | away v =>
    obtain ⟨p, rfl, hp⟩ := ho
    have hm := step_away h
    simp [t_q_after, EdV.data, scP, -S_q_arrived, -S_q_whole, d2, d3, -lcGo]
    have hlt := l.ok.lt p hm
    refine ⟨_, rfl, ?_⟩
    have hw : isInt (.int (p : Int)) 0 ((s.g.length : Int) - 1) = true := by simp [isInt]; omega
    simp only [S_q_whole, hw, if_true]
    refine ⟨_, rfl, rfl, plain_pN _, .inl (Nat.zero_le _), ?_⟩
    rw [if_neg (fun h => (mem_pN.mp h) hm)]
    refine lc_encF' pN (fun x => decide (x ≠ p)) pN (fun i x hx kk k1 k2 => ?_) (by omega) ?_
    · have e : (pN x).eqv (pN p) = decide (x = p) := by
        rw [show (pN x).eqv (pN p) = ((x : Int) == (p : Int)) from rfl, Bool.eq_iff_iff]
        simp only [beq_iff_eq, decide_eq_true_eq]
        omega
      simp [lcStep]
      refine ⟨_, rfl, rfl, rfl, .inl (Nat.zero_le _), ?_⟩
      show if (!(pN x).eqv (pN p)) = true then _ else _
      rw [e]
      by_cases h : x = p
      · simpa [h] using k2 (by simp [h])
      · simpa [h] using k1 (by simp [h])
    · refine ⟨_, rfl, by omega, ?_⟩
      simp [scP, stepSc, Sc.away, natOf] at k ⊢
      rw [show (fun x : Nat => !decide (x = p)) = (fun x => decide (¬ x = p)) from funext fun x => by rw [decide_not]]
      exact k
@[simp] def S_q_edit (r : Addr) : SV := fun ds Q _ => ∃ s, ds = [.raw (.ref r), .py (scP s)] ∧ Lv s ∧ (s.line = [] → s.g.length < 40) ∧ ∀ e, EdOk e → stepEr s e = none → Q (.py (EdV.data e))
theorem l_q_edit (r : Addr) : ∀ ds Q E, S_q_edit r ds Q E → t_q_edit (svTake r) (envOf 6 ds) (fin Q E) := by
  rintro ds Q E ⟨s, rfl, l, hl, k⟩
  simp [t_q_edit, scP]
  have arrive : s.g.length < 40 → ∀ (x : Int), 0 ≤ x → x < 5 → ∃ d, atI [PyData.int 7, PyData.int 2, PyData.int 0, PyData.int 1000000000, PyData.int 5] x = some d ∧ if s.g = [] then Q (D.py (PyData.tuple [PyData.str (Str.ofString "arrive"), d])) else ∀ (x : Int), 0 ≤ x → x < 2 → if x = 0 then 0 < s.g.length ∧ (s.g.length : Int) < 1606938044258990275541962092341162602522202993782792835301376 ∧ ∀ (x : Int), 0 ≤ x → x < (s.g.length : Int) → ∃ d, atI (List.map PyData.int s.g) x = some d ∧ Q (D.py (PyData.tuple [PyData.str (Str.ofString "arrive"), d])) else Q (D.py (PyData.tuple [PyData.str (Str.ofString "arrive"), d])) := by
    intro hg x h0 h1
    have step : ∀ i : Int, 0 ≤ i → i ≤ 1000000000 → Q (D.py (PyData.tuple [PyData.str (Str.ofString "arrive"), .int i])) := fun i i0 i1 => k (.arr (.int i)) ⟨i, rfl, i0, i1⟩ (by simp only [stepEr]; rw [if_pos (by simp [isInt, i0, i1]), if_neg (by omega)])
    have key : ∃ i : Int, atI [PyData.int 7, PyData.int 2, PyData.int 0, PyData.int 1000000000, PyData.int 5] x = some (.int i) ∧ 0 ≤ i ∧ i ≤ 1000000000 := by
      have : x = 0 ∨ x = 1 ∨ x = 2 ∨ x = 3 ∨ x = 4 := by omega
      rcases this with rfl | rfl | rfl | rfl | rfl
      · exact ⟨7, rfl, by decide, by decide⟩
      · exact ⟨2, rfl, by decide, by decide⟩
      · exact ⟨0, rfl, by decide, by decide⟩
      · exact ⟨1000000000, rfl, by decide, by decide⟩
      · exact ⟨5, rfl, by decide, by decide⟩
    obtain ⟨i, ei, i0, i1⟩ := key
    refine ⟨_, ei, ?_⟩
    by_cases c : s.g = []
    · rw [if_pos c]; exact step i i0 i1
    · rw [if_neg c]
      intro y _ _
      have gp := List.length_pos_iff.mpr c
      by_cases c2 : y = 0
      · rw [if_pos c2]
        refine ⟨gp, by omega, fun z z0 z1 => ?_⟩
        obtain ⟨d, hd, hm⟩ := atI_ok (xs := s.g.map PyData.int) z0 (by simpa using z1)
        obtain ⟨g, hg, rfl⟩ := List.mem_map.mp hm
        exact ⟨_, hd, step g (l.gb g hg).1 (l.gb g hg).2⟩
      · rw [if_neg c2]; exact step i i0 i1
  refine ⟨tN s.line, rfl, fun x h0 h1 => ?_⟩
  simp
  have tail : s.line ≠ [] → if x = 7 then 0 < s.line.length ∧ (s.line.length : Int) < 1606938044258990275541962092341162602522202993782792835301376 ∧ ∀ (x : Int), 0 ≤ x → x < (s.line.length : Int) → ∃ d, atI (List.map pN s.line) x = some d ∧ Q (D.py (PyData.tuple [PyData.str (Str.ofString "go_away"), d])) else Q (D.py (PyData.tuple [PyData.str (Str.ofString "serve")])) := by
    intro c
    have gp := List.length_pos_iff.mpr c
    have ll := l.ok.ll
    have gl := l.ok.gl
    by_cases c2 : x = 7
    · rw [if_pos c2]
      refine ⟨gp, by omega, fun z z0 z1 => ?_⟩
      obtain ⟨d, hd, hm⟩ := atI_ok (xs := s.line.map pN) z0 (by simpa using z1)
      obtain ⟨g, hg, rfl⟩ := List.mem_map.mp hm
      have hlt := l.ok.lt g hg
      refine ⟨_, hd, k (.away (.int (g : Int))) ⟨g, rfl, by omega⟩ ?_⟩
      simp only [stepEr]
      rw [if_pos (by simp [isInt]; omega), if_pos (show natOf (.int (g : Int)) ∈ s.line from hg)]
    · rw [if_neg c2]
      exact k .srv trivial (by simp only [stepEr]; rw [if_neg c])
  by_cases c1 : x < 4
  · rw [if_pos c1]
    by_cases c2 : s.g.length < 40
    · rw [if_pos (by omega)]; exact arrive c2
    · rw [if_neg (by omega)]
      by_cases c3 : s.line = []
      · exact absurd (hl c3) c2
      · rw [if_neg c3]; exact tail c3
  · rw [if_neg c1]
    by_cases c3 : s.line = []
    · rw [if_pos c3]; exact arrive (hl c3)
    · rw [if_neg c3]; exact tail c3
@[simp] def S_q_call : SM := fun x n fs ds1 ds2 Q E => ∃ q e, n ∈ qNs ∧ fs = qF q ∧ ds1 = [] ∧ ds2 = [.py (EdV.data e)] ∧ QOk q ∧ q.busy = false ∧ perfEr q e = none ∧ Q (.py (pN (q.kept.length + 1))) (qF (q.put e))
theorem l_q_call : ∀ x n fs ds1 ds2 Q E, S_q_call x n fs ds1 ds2 Q E → t_q_call S_Queue_arrive S_Queue_serve S_Queue_go_away (envM x n fs 2 ds1 ds2) (finM x n ds1.length Q E) := by
  rintro x n fs ds1 ds2 Q E ⟨q, e, hn, rfl, rfl, rfl, o, hb, he, k⟩
  have d1 : (Str.ofString "serve" == Str.ofString "arrive") = false := by decide
  have d2 : (Str.ofString "go_away" == Str.ofString "arrive") = false := by decide
  have d3 : (Str.ofString "go_away" == Str.ofString "serve") = false := by decide
  cases e with
  | arr v =>
    simp [t_q_call, EdV.data, -qNs, -List.lookup_eq_none_iff, mMeth_o, -mMeth, hn, -S_Queue_arrive, -S_Queue_serve, -S_Queue_go_away]
    refine ⟨rfl, _, rfl, q, v, hn, rfl, rfl, rfl, o, ?_⟩
    rw [if_neg (by simp [hb]), he]
    exact k
  | srv =>
    simp [t_q_call, EdV.data, -qNs, -List.lookup_eq_none_iff, mMeth_o, -mMeth, hn, -S_Queue_arrive, -S_Queue_serve, -S_Queue_go_away, d1]
    refine ⟨rfl, q, hn, rfl, rfl, rfl, o, ?_⟩
    rw [if_neg (by simp [hb]), he]
    exact k
  | away v =>
    simp [t_q_call, EdV.data, -qNs, -List.lookup_eq_none_iff, mMeth_o, -mMeth, hn, -S_Queue_arrive, -S_Queue_serve, -S_Queue_go_away, d2, d3]
    refine ⟨rfl, _, rfl, q, v, hn, rfl, rfl, rfl, o, ?_⟩
    rw [if_neg (by simp [hb]), he]
    exact k
end LawP
set_option Elab.async false
set_option linter.all false
set_option maxRecDepth 100000
set_option maxHeartbeats 4000000
/-! VL133: an inner list is changed (pieces for vs_forBlk) -/
namespace VL
open PySem PySem.Spec PyProof.Rows L2 StX
end VL
set_option Elab.async false
set_option linter.all false
set_option maxRecDepth 100000
set_option maxHeartbeats 4000000
/-! VL134: the rule of the loop that gathers a line into blocks -/
namespace VL
open PySem PySem.Spec PyProof.Rows L2 StX
section
variable {X : Cx} {b : Bg} {W : WX} {tg iter c : Expr} {s1 s2 : List Stmt} {pos pos' : Pos}
end
end VL
set_option Elab.async false
set_option linter.all false
set_option maxRecDepth 100000
set_option maxHeartbeats 4000000
/-! VL135: a method that first asks super() for the text of the class above, then goes on -/
namespace VL
open PySem PySem.Spec PyProof.Rows L2 StX
/-- its words -/
def supF (x qual : Str) (st : Stmt) (cc cda : Addr) : NdefX.NF := ⟨x, qual, defArgs st, defBody st, defScope st, [("__class__", cc)], cda⟩
structure FunS (P : Program) (K : PySem.W.Frag) (x qual : Str) (st : Stmt) (f : Addr) (fd : FuncData) (cda cc C f2 : Addr) : Prop where
  ex : ∃ (oc : Value) (od : Option Addr) (kV doc pm ct : Value) (an : Option Addr) (osl : Array (Option Value)), fd = PySem.W.fnX x qual (defArgs st) (defBody st) (defScope st) [("__class__", cc)] .none kV doc pm an (.ref cda) ct ∧ K.lookup f = some ⟨oc, od, .func fd, osl⟩
  cdq : PySem.W.codeIn K (.ref cda) qual = true
  cd : ∃ (ccl : Value) (cdd : Option Addr) (vs : Array Value) (ccs : Array (Option Value)) (file : Str) (tf : Tok), K.lookup cda = some ⟨ccl, cdd, .fields vs, ccs⟩ ∧ vs[2]? = some (.str file tf) ∧ ((P.main.file : Str) == file) = true
  cell : ∃ (cl : Value) (cld : Option Addr) (csl : Array (Option Value)), K.lookup cc = some ⟨cl, cld, .cell (some (.ref C)), csl⟩
  cls : ∃ cdC, PySem.W.clsIn K C = some cdC
  sub : PySem.W.mroIn K C (.ref C) = some true
  third : PySem.W.nsIn K cStatics "thirdparty.any" = some none
  top : (P.main.scope.names.lookup ("super" : Str)).isSome = false
  at_ : PySem.W.ks_superIn K C C x = some (some (.ref f2))
  ty : PySem.W.typeIn K (.ref f2) = some (.type "function")
  fi : PySem.W.fnIn K f2 = true
section
variable {P : Program} {w : World} {K : PySem.W.Frag} {mg : Str → Option Value} {base : Heap} {b : Bg} {k : Nat} {qual n x : Str} {st : Stmt} {f f2 cda cc : Addr} {fd : FuncData} {S0 S1 : SV} {tr : VS}
abbrev supX (P : Program) (w : World) (K : PySem.W.Frag) (mg : Str → Option Value) (base : Heap) (x qual : Str) (st : Stmt) (cc cda f : Addr) (A : Around) (outer : List Env) (s : Shared) (H : Hp) (E : XK) : Cx :=
  NdefX.ncx (L2.CX P w) P w K mg base ["self", "__class__", "text"] (supF x qual st cc cda) f A outer s H E
theorem cell1 {cc : Addr} {y : Str} {c : Addr} (h : List.lookup y [(("__class__" : Str), cc)] = some c) : y = "__class__" ∧ c = cc := by
  unfold List.lookup at h
  split at h
  · rename_i q
    cases h
    exact ⟨by simpa using q, rfl⟩
  · cases h
theorem fnSup {rest : List Stmt} {p0 p1 p2 p3 q0 q1 : Pos} {pl : Sem Bool} {ar : Arg}
    (F : FunS P K x qual st f fd cda cc (b.cls n) f2) (Sc : NdefX.NScope ["self", "__class__", "text"] ["self"] ["__class__"] (defScope st))
    (hb : defBody st = .Assign [.Name "text" q0] (.Call (.Attribute (.Call (.Name "super" p0) [] [] p1) x p2) [] [] p3) q1 :: rest)
    (har : ((defArgs st).posonlyargs ++ (defArgs st).args).head? = some ar) (hself : ar.arg = "self")
    (hks : (defScope st).names.lookup ("super" : Str) = some .globalImplicit) (hkc : (defScope st).names.lookup ("__class__" : Str) = some .free) (hka : (defScope st).names.lookup ("self" : Str) = some .local) (hkt : (defScope st).names.lookup ("text" : Str) = some .local)
    (hat : (x == ("__class__" : Str)) = false)
    (he : ∀ L : Addr, eval (.Call (.Attribute (.Call (.Name "super" p0) [] [] p1) x p2) [] [] p3) (NdefX.envF (supF x qual st cc cda) f L) = (do
      let ov ← attributeBase (.Call (.Name "super" p0) [] [] p1) x (NdefX.envF (supF x qual st cc cda) f L) (eval (.Call (.Name "super" p0) [] [] p1) (NdefX.envF (supF x qual st cc cda) f L))
      standAt p2.atName
      let (g, first) ← holding [ov] (getMethod ov x pl)
      callWith p3 g first (backTo p3 (starEach [] (NdefX.envF (supF x qual st cc cda) f L))) []))
    (hs : ∀ L : Addr, swapsWith (.Call (.Attribute (.Call (.Name "super" p0) [] [] p1) x p2) [] [] p3) (some (.Name "text" q0)) q1.line (NdefX.envF (supF x qual st cc cda) f L) = pure false)
    (hm : mg "super" = none) (F0 : FnR P w K mg base (L2.CX P w) k f2 (spV b S0))
    (hrest : ∀ (A : Around) (outer : List Env) (s : Shared) (H : Hp) (E : XK), Room k (A.deeper (NdefX.envF (supF x qual st cc cda) f s.heap.objs.size)) → Takes (supX P w K mg base x qual st cc cda f A outer s H E) (WF E) → VSs (supX P w K mg base x qual st cc cda f A outer s H E) b (WF E) rest tr)
    (hlaw : ∀ ds Q E, S1 ds Q E → ∃ a fs, ds = [.rob a n fs] ∧ S0 ds (fun d => tr [.shr (.rob a n fs), .un, .shr d] (fin Q E)) E) : FnOk P w K mg base (L2.CX P w) (k + 1) f fd ["self"] (spV b S1) := by
  have len : ∀ vs H Q E, spV b S1 vs H Q E → vs.length = (["self"] : List Str).length := fun vs H Q E ⟨Z, ds, Qd, Ed, g, r, s, _⟩ => by
    obtain ⟨a, fs, rfl, _⟩ := hlaw _ _ _ s
    exact r.length
  refine ⟨len, fun A outer s H args us vs Q E hr e0 hb2 r hsp => ?_⟩
  obtain ⟨oc, od, kV, doc, pm, ct, an, osl, rfl, lk⟩ := F.ex
  have KX : K.In s.heap := e0.mod.kin.keeps fun b o e => (e0.bs b o e).1
  have lim : s.heap.NoLimit := e0.mod.nolimit.keeps fun b o e => (e0.bs b o e).1
  obtain ⟨Z, ds, Qd, Ed, g, rp, sp, l, m⟩ := hsp
  obtain ⟨a, fs, rfl, sp⟩ := hlaw _ _ _ sp
  cases rp with
  | cons r1 r2 =>
  cases r2
  obtain ⟨dx, xs, rfl, hH, nz, rf⟩ := id r1
  cases r with
  | cons ru rr =>
  cases rr
  rename_i u
  obtain rfl : u = .ref a := ru
  obtain ⟨cl, cld, csl, hcell⟩ := F.cell
  have hcb := e0.mod.kin _ _ hcell
  have C : NdefX.CellsAt [(("__class__" : Str), cc)] ["__class__"] [none] s.heap H := by
    refine ⟨rfl, fun y c e => ?_, fun y z c h1 h2 => ?_, fun i y e => ?_⟩
    · obtain ⟨_, rfl⟩ := cell1 e
      exact ⟨(e0.bs _ _ hcb).2, _, _, (e0.bs _ _ hcb).1, rfl⟩
    · rw [(cell1 h1).1, (cell1 h2).1]
    · match i, e with
      | 0, e =>
        cases e
        exact ⟨cc, rfl, fun v z => by cases z⟩
      | i + 1, e => cases e
  refine PySem.ks_codeAny_call_defAt (body := defBody st) (binds := (["self"] : List Str).zip [Value.ref a]) hr.depth (KX _ _ lk) rfl lim (PySem.W.codeRec_of KX F.cdq) rfl hb2 Sc.nocell (fun y hy => ?_) (fun h₀ hns hk => ?_) Sc.co Sc.gen Sc.kind
  · have : y = (("self" : Str), Value.ref a) := by simpa using hy
    rw [this]; exact hka
  have I : Inv (supX P w K mg base x qual st cc cda f A outer s H E) [] (NdefX.startF ["self", "__class__", "text"] [.ref a] [none]) H { s with heap := h₀, toks := s.toks + ((["self"] : List Str).zip [Value.ref a]).length } :=
    NdefX.inv_startN (CX := L2.CX P w) (E := E) (F := supF x qual st cc cda) (ws := [none]) Sc hr.hd e0 rfl (us := [Value.ref a]) (vs := [V.ref a]) (.cons rfl .nil) C hns hk
  have KX0 : K.In h₀ := KX.keeps hk
  have hr' : Room k (A.deeper (NdefX.envF (supF x qual st cc cda) f s.heap.objs.size)) := hr.deeper _
  have tk : Takes (supX P w K mg base x qual st cc cda f A outer s H E) (WF E) := takes_of rfl rfl rfl rfl
  have kb : ∀ c o, base.get? c = some o → h₀.get? c = some o := fun c o e => hk _ _ (e0.bs c o e).1
  obtain ⟨cdC, hc⟩ := F.cls
  obtain ⟨oD, hD1, hD2⟩ : ∃ oD, h₀.get? (b.cls n) = some oD ∧ oD.data = .cls cdC := by
    have hc' := hc
    unfold PySem.W.clsIn at hc'
    split at hc'
    · rename_i c d cd' sl ho
      cases hc'
      exact ⟨_, KX0 _ _ ho, rfl⟩
    · cases hc'
  obtain ⟨mA, O, rrO, _, _, _⟩ := ins_get I.hok hH
  obtain ⟨od', J, _⟩ := O.look
  obtain ⟨mb, hmb, hmbx⟩ := e0.mod.blt
  obtain ⟨ccl, cdd, vsC, ccs, file, tf, hcode, hvs, hfile⟩ := F.cd
  have Jne : a ≠ b.cls n := PySem.W.ks_ne KX0 J hc
  have fini : ∀ {fl : Flow} {s' : Shared}, L2.SP (supX P w K mg base x qual st cc cda f A outer s H E) [] { nx := fun _ H' => Q .non H', rt := Q } fl s' → CR (L2.CX P w) outer P w H s Q E (.ok (.ret (match fl with | .ret v => v | _ => .none))) s' := fun {fl s'} hs => by
    have fin : ∀ {σ' : L2.St} {H' : Hp} {v : V} {u : Value}, Inv (supX P w K mg base x qual st cc cda f A outer s H E) [] σ' H' s' → L2.RelV v u → Q v H' → CE outer P w H s Q u s' :=
      fun {σ' H' v u} J rv q => ⟨v, H', J.os, J.bare, J.base, J.hok, rv, q⟩
    cases fl with
    | ret u =>
      obtain ⟨v, σ', H', J, rv, q⟩ := hs
      exact fin J rv q
    | next =>
      obtain ⟨σ', H', J, q⟩ := hs
      exact fin (v := V.non) (u := Value.none) J rfl q
    | brk =>
      obtain ⟨_, _, _, q⟩ := hs
      exact False.elim q
    | cont =>
      obtain ⟨_, _, _, q⟩ := hs
      exact False.elim q
  show PySem.wpAt (model P w) (A.deeper (NdefX.envF (supF x qual st cc cda) f s.heap.objs.size)) (.func (defBody st) (NdefX.envF (supF x qual st cc cda) f s.heap.objs.size)) (execs (defBody st) (NdefX.envF (supF x qual st cc cda) f s.heap.objs.size)) _ _ _
  rw [hb]
  refine PySem.ks_wpAt_execs_cons (PySem.ks_wpAt_Assign_Name (PySem.ks_wpAt_MethodCall (pl := pl) ?_ (he _)) (hs _))
  refine PySem.ks_wpAt_super_base (env := NdefX.envF (supF x qual st cc cda) f s.heap.objs.size) hks hkc hat rfl (hk _ _ (KX _ _ lk)) rfl har rfl (hk _ _ (KX _ _ hcode)) rfl hvs hfile F.top ?_
  refine PySem.W.ks_loadName_global Sc.kind hks (Calls.loadGlobal_builtin (env := NdefX.envF (supF x qual st cc cda) f s.heap.objs.size) (e0.mod.glob.keeps kb) hm (hmb.keeps kb) ((hmbx _ (by decide)).trans PyProof.Rows.Boot.«super») ⟨rfl, ?_⟩)
  refine wpAny_loadName_free Sc.kind hkc rfl ⟨_, hk _ _ (KX _ _ hcell), rfl⟩ ?_
  rw [hself]
  refine wpAny_loadName_local (v := .ref a) Sc.kind hka hns rfl ?_
  refine PySem.ks_wpAny_isType_cls hD1 hD2 ⟨rfl, ?_⟩
  refine PySem.ks_wpAny_call_super hD1 hD2 J.at_ J.cls (fun c e => ?_) (PySem.W.looks_mroIn KX0 F.sub) (fun h' e1 k1 => ?_)
  · have := J.no
    unfold PySem.W.notCls at this
    rw [e] at this
    exact Bool.noConfusion this
  have I2 := I.kept (h' := h') (t' := s.toks + ((["self"] : List Str).zip [Value.ref a]).length) k1
  have KX2 : K.In h' := KX0.keeps k1
  have hm2 : PySem.W.alongIn K x ((cdC.mro.dropWhile (· != .ref (b.cls n))).drop 1) = some (some (.ref f2)) := by
    have := F.at_
    unfold PySem.W.ks_superIn at this
    rw [hc] at this
    exact this
  obtain ⟨of, hof, hofc⟩ : ∃ of, h'.get? f2 = some of ∧ of.cls = .type "function" := by
    have ht' : (K.lookup f2).map (·.cls) = some (.type "function") := F.ty
    cases z : K.lookup f2 with
    | none => rw [z] at ht'; cases ht'
    | some of => rw [z] at ht'; exact ⟨of, KX2 _ _ z, Option.some.inj ht'⟩
  refine PySem.ks_wpAny_getMethod_super e1 (PySem.W.looks_opaque KX2 F.third) (l₀ := cdC.mro) (fun A Q E s k q => wpAny_bind ((PySem.W.looks_clsIn KX2 hc) A _ E s k (wpAny_pure q))) rfl KX2 hm2 hof hofc Jne hat ?_
  have I3 := ClX.met_new (g := f2) (C := a) I2
  refine PySem.W.callWith_M0 (K := K) (g := f2) (self := .ref a) ⟨ClX.pin_at I3, I3.kIn⟩ F.fi ?_
  have hsp0 : spV b S0 [.ref a] H (fun v H' => ∃ d, Ex b H H' ∧ b.G H' ∧ Rp b Z H' v d ∧ tr [.shr (.rob a n fs), .un, .shr d] (fin Qd Ed)) E :=
    ⟨Z, [.rob a n fs], _, Ed, g, .cons r1 .nil, sp, fun v H' d x g r q => ⟨d, x, g, r, q⟩, m⟩
  have z : wpAny (model P w) (A.deeper (NdefX.envF (supF x qual st cc cda) f s.heap.objs.size)) (call (.ref h'.objs.size) []) (EP (supX P w K mg base x qual st cc cda f A outer s H E) [] (NdefX.startF ["self", "__class__", "text"] [.ref a] [none]) (fun v H' => ∃ d, Ex b H H' ∧ b.G H' ∧ Rp b Z H' v d ∧ tr [.shr (.rob a n fs), .un, .shr d] (fin Qd Ed))) (supX P w K mg base x qual st cc cda f A outer s H E).xe _ :=
    wpAny_call (PySem.W.method_call (ClX.pin_at I3) (codeAny_mono (F0 _ _ _ H [.ref a] [.ref a] _ E hr' I3.env0 (.cons rfl .nil) hsp0) fun r s' hq => by
      cases r with
      | error e => exact passAt tk _ _ H _ e s' I3 hq
      | ok fl =>
        cases fl with
        | ret u => exact ClX.unpinE (I3.after hq)
        | next => exact False.elim hq
        | brk => exact False.elim hq
        | cont => exact False.elim hq))
  refine wpAny_mono z (fun u s4 h4 => ?_) fun _ _ h => h
  obtain ⟨v, H4, I4, rv, d, x4, g4, rd, q4⟩ := h4
  refine L2.store_ok (X := supX P w K mg base x qual st cc cda f A outer s H E) I4 Sc.nd (i := 2) rfl (.inl hkt) rv (fun s5 I5 => ?_) (.inr hkt)
  have hx : ∀ {H'}, (∀ a o, H a = some o → ¬ b.B a → ¬ False → H' a = some o) → Ex b H H' := fun h a o e n => h a o e n not_false
  have f0 : FOk b H (fun _ => False) Z Z (L2.start ["self", "__class__", "text"] [.ref a]) H (envOf 3 [.rob a n fs]) := ⟨VOk.entry (N := ["self", "__class__", "text"]) g (.cons r1 .nil) (by simp), fun _ _ e _ _ => e, fun i d a e _ => by
    rcases envOf_at e with h | ⟨d', h, _⟩ <;> cases h⟩
  have f4 := (f0.ex x4 g4).set (i := 2) (u := v) (d := d) (by simp) rd
  refine PySem.wpAt_of_wpAny (wpAny_mono ((hrest A outer s H E hr' tk).run [] s5 _ H4 { nx := fun _ H' => Q .non H', rt := Q } I5 ?_) (fun fl s' hs => fini hs) fun e s' hs => hs)
  refine ⟨H, fun _ => False, Z, _, _, fin Qd Ed, f4, q4, ⟨fun Z' σ' H' ρ' f' q => l .non H' (.py .none) (hx f'.ext) f'.v.g Rq.non q, fun v H' d x1 g1 r1 q => l v H' d (hx x1) g1 r1 q, fun _ _ _ _ _ q => q.elim, fun _ _ _ _ _ q => q.elim, fun c y Z' σ' H' ρ' er f' r' q => m c y H' er (hx f'.ext) f'.v.g ?_ q, fun _ _ _ _ _ _ _ _ q => q.elim⟩⟩
  obtain ⟨h1, h2⟩ := r'
  refine ⟨h1, h2.imp id ?_⟩
  rintro ⟨a, xs, e1, e2, e3, e4⟩
  exact ⟨a, xs, e1, e2, fun z => e3 (f'.v.zo a z), e4.mono (fun c z => .inl (f'.v.zo c z)) fun _ _ e _ => e⟩
end
section
variable {P : Program} {K : PySem.W.Frag} {x qual : Str} {st : Stmt} {f f2 cda cc C : Addr} {fd : FuncData}
theorem FunS.binds (F : FunS P K x qual st f fd cda cc C f2) {ps : List Str}
    (h : ∀ (kV doc pm : Value) (an : Option Addr) (ct : Value) (us : List Value), us.length = ps.length → bindArgs (PySem.W.fnX x qual (defArgs st) (defBody st) (defScope st) [("__class__", cc)] .none kV doc pm an (.ref cda) ct) ⟨us, []⟩ = pure (ps.zip us)) : Binds K fd ps [] := by
  obtain ⟨oc, od, kV, doc, pm, ct, an, osl, rfl, lk⟩ := F.ex
  exact .all (h kV doc pm an ct)
end
/-- for the join -/
structure SupK (P : Program) (K : PySem.W.Frag) (n m qual qual0 : Str) (st st0 : Stmt) : Prop where
  ex : ∃ C : Addr, PySem.W.nsIn K mainGlobals n = some (some (.ref C)) ∧ ∃ (f f2 cda cc : Addr) (fd fd2 : FuncData), FunS P K m qual st f fd cda cc C f2 ∧ Meth K C m f ∧ Fun K m qual0 st0 f2 fd2
theorem supK {P : Program} {K : PySem.W.Frag} {C f f2 cda cc : Addr} {n m qual qual0 file : Str} {st st0 : Stmt} {cdC : PySem.ClassData} {tf : Tok} {vs : Array Value} {ccl cl oc kV doc pm ct oc0 kV0 doc0 pm0 cdv0 ct0 : Value} {cdd cld od an od0 an0 : Option Addr} {ccs csl osl osl0 : Array (Option Value)}
    (a1 : PySem.W.nsIn K mainGlobals n = some (some (.ref C))) (m2 : PySem.W.findIn K (.ref C) m = some (some (.ref f))) (m3 : PySem.W.isFn K (.ref f) = true)
    (d3 : K.lookup f = some ⟨oc, od, .func (PySem.W.fnX m qual (defArgs st) (defBody st) (defScope st) [("__class__", cc)] .none kV doc pm an (.ref cda) ct), osl⟩) (d4 : PySem.W.codeIn K (.ref cda) qual = true) (d5 : PySem.W.keepIn K (.ref f) = true)
    (s1 : K.lookup cda = some ⟨ccl, cdd, .fields vs, ccs⟩) (s2 : vs[2]? = some (.str file tf)) (s3 : ((P.main.file : Str) == file) = true) (s4 : K.lookup cc = some ⟨cl, cld, .cell (some (.ref C)), csl⟩) (s5 : PySem.W.clsIn K C = some cdC) (s6 : PySem.W.mroIn K C (.ref C) = some true)
    (s7 : PySem.W.nsIn K cStatics "thirdparty.any" = some none) (s8 : (P.main.scope.names.lookup ("super" : Str)).isSome = false) (s9 : PySem.W.ks_superIn K C C m = some (some (.ref f2))) (t1 : PySem.W.typeIn K (.ref f2) = some (.type "function")) (t2 : PySem.W.fnIn K f2 = true)
    (e3 : K.lookup f2 = some ⟨oc0, od0, .func (PySem.W.fnOf m qual0 (defArgs st0) (defBody st0) (defScope st0) .none kV0 doc0 pm0 an0 cdv0 ct0), osl0⟩) (e4 : PySem.W.codeIn K cdv0 qual0 = true) (e5 : PySem.W.keepIn K (.ref f2) = true) : SupK P K n m qual qual0 st st0 :=
  ⟨C, a1, f, f2, cda, cc, _, _, ⟨⟨oc, od, kV, doc, pm, ct, an, osl, rfl, d3⟩, d4, ⟨ccl, cdd, vs, ccs, file, tf, s1, s2, s3⟩, ⟨cl, cld, csl, s4⟩, ⟨_, s5⟩, s6, s7, s8, s9, t1, t2⟩, ⟨m2, m3, d5⟩, fun_mk e3 e4 e5⟩
theorem SupK.at {P : Program} {K : PySem.W.Frag} {C : Addr} {n m qual qual0 : Str} {st st0 : Stmt} (a : SupK P K n m qual qual0 st st0) (h : PySem.W.nsIn K mainGlobals n = some (some (.ref C))) :
    ∃ (f f2 cda cc : Addr) (fd fd2 : FuncData), FunS P K m qual st f fd cda cc C f2 ∧ Meth K C m f ∧ Fun K m qual0 st0 f2 fd2 := by
  obtain ⟨D, h1, h2⟩ := a.ex
  obtain rfl := ns_eq h1 h
  exact h2
end VL
set_option Elab.async false
set_option linter.all false
set_option maxRecDepth 100000
set_option maxHeartbeats 4000000
namespace LawP
open PySem PySem.Spec PyProof.Rows L2 VL
def t_law_planned (S_q_first : SV) (S_q_edit : SV) (S_q_after : SV) : VS :=
  (sSeq (sPar [3, 4] (mCons true (vLst vNil) (mCons false (vCall S_q_first (vCons (vTup vNil) vNil)) mNil)))
  (sSeq (sFor (iR1 (vCons (vBor 1) vNil)) (tgName 5)
  (sSeq (sSet 6 (vCall S_q_edit (vCons (vVar 0) (vCons (vVar 4) vNil))))
  (sSeq (sIf (wAnd (vTst (vBin gEq (vBin gIx (vBor 6) (vC (.py (.int 0)))) (vC (.py (.str "go_away"))))) (vTst (vBor 2)))
  (sSet 6 (vTup (vCons (vC (.py (.str "serve"))) vNil)))
  sNext)
  (sSeq (sMut 3 gApp (vCons (vVar 6) vNil))
  (sSet 4 (vBin gIx (vCall S_q_after (vCons (vVar 4) (vCons (vVar 6) vNil))) (vC (.py (.int 1)))))))))
  (sFrz 3 (sRet (vLst (vCons (vVar 3) (vCons (vVar 4) vNil)))))))
def t_law_performed (S_Queue_init : SM) (S_q_call : SM) : VS :=
  (sSeq (sSetN 1 (vMakeQ "TalliedQueue" S_Queue_init vNil))
  (sSeq (sFor (iS (vVar 0)) (tgName 2)
  (sExprM (mCall S_q_call (aOwn 1 (vCons (vVar 2) vNil)))))
  (sRetOw 1)))
def t_law_with_others : VS :=
  (sSeq (sPar [2, 3] (mCons true (vLst vNil) (mCons true vD0 mNil)))
  (sSeq (sFor (iS (vVar 0)) (tgName 4)
  (sSeq (sIf (vTst (vBin gEq (vBin gIx (vBor 4) (vC (.py (.int 0)))) (vC (.py (.str "arrive")))))
  (sSeq (sDPutO 3 (vBin gIx (vBor 4) (vC (.py (.int 1)))) (vDGet2 (vBor 3) (vBin gIx (vBor 4) (vC (.py (.int 1)))) (vBin gAdd (vBin gMulA (vC (.py (.int 3))) (vCal gLen (vCons (vBor 3) vNil))) (vC (.py (.int 1))))))
  (sSet 4 (vTup (vCons (vC (.py (.str "arrive"))) (vCons (vBin gIx (vLst (vCons (vDIx (vBor 3) (vBin gIx (vBor 4) (vC (.py (.int 1))))) (vCons (vC (.py (.int 4))) (vCons (vCal gLen (vCons (vBor 2) vNil)) vNil)))) (vBor 1)) vNil)))))
  sNext)
  (sMut 2 gApp (vCons (vVar 4) vNil))))
  (sFrz 2 (sRet (vVar 2)))))
def t_TalliedQueue_jumps : VS :=
  (sRet (vUn (gFld "Scene" "passed") (vBin gIxS (vUn (gFldQ qNs "scenes") (vBor 0)) (vUn gNeg (vC (.py (.int 1)))))))
def t_law_passes : VS :=
  (sRet (vCal gSum (vCons (vLc [1] (iR1 (vCons (vCal gLen (vCons (vBor 0) vNil)) vNil)) (tgName 1) wYes (vCal gLen (vCons (vLc [2] (iS (vSl gSl (vBor 0) oNo (oAt (vBor 1)))) (tgName 2) (vTst (vBin gGt (vBor 2) (vBin gIx (vBor 0) (vBor 1)))) (vVar 2)) vNil))) vNil)))
def t_TalliedQueue_joined : VS :=
  (sRet (vUn (gFld "Scene" "mated") (vBin gIxS (vUn (gFldQ qNs "scenes") (vBor 0)) (vUn gNeg (vC (.py (.int 1)))))))
def t_TalliedQueue_told (S_TalliedQueue_jumps : SV) (S_TalliedQueue_joined : SV) : VS :=
  (sRet (vJoin (jCons (vUn gFmt (vVar 2)) (jCons (vC (.py (.str ", "))) (jCons (vUn gFmt (vCal gLen (vCons (vProp ["TalliedQueue"] S_TalliedQueue_joined (vObj 0)) vNil))) (jCons (vC (.py (.str " joined, "))) (jCons (vUn gFmt (vProp ["TalliedQueue"] S_TalliedQueue_jumps (vObj 0))) (jCons (vC (.py (.str " jumps"))) jNil))))))))
def t_law_plain_right (S_law_performed : SV) (S_law_with_others : SV) (S_Queue_served : SV) (S_Queue_waiting : SV) (S_TalliedQueue_joined : SV) (S_TalliedQueue_jumps : SV) : VS :=
  (sSeq (sPar [2, 3, 4] (mCons true (vCall S_law_performed (vCons (vCall S_law_with_others (vCons (vVar 0) (vCons (vVar 1) vNil))) vNil)) (mCons false (vLst vNil) (mCons false (vC (.py (.int 0))) mNil))))
  (sSeq (sSet 5 (vC (.py (.int 0))))
  (sSeq (sFor (iS (vVar 0)) (tgName 6)
  (sIf (vTst (vBin gEq (vBin gIx (vBor 6) (vC (.py (.int 0)))) (vC (.py (.str "arrive")))))
  (sSeq (sSet 3 (vBin gAdd (vBor 3) (vBin gMulA (vLst (vCons (vVar 5) vNil)) (vCal gInt (vCons (vAnd (vBin gGt (vBor 4) (vC (.py (.int 0)))) (vBin gEq (vBor 1) (vC (.py (.int 1))))) vNil)))))
  (sPar [5, 4] (mCons false (vBin gAdd (vBor 5) (vC (.py (.int 1)))) (mCons false (vBin gAdd (vBor 4) (vC (.py (.int 1)))) mNil))))
  (sSet 4 (vBin gSub (vBor 4) (vC (.py (.int 1)))))))
  (sSeq (sSet 7 (vBin gAdd (vMethQ qNs "served" (fun _ => svW .none S_Queue_served) (vObj 2) vNil) (vMethQ qNs "waiting" (fun _ => svW .none S_Queue_waiting) (vObj 2) vNil)))
  (sRet (vAnd (vBin gEq (vCal gList (vCons (vBor 7) vNil)) (vCal gSorted (vCons (vBor 7) vNil))) (vAnd (vBin gEq (vProp ["TalliedQueue"] S_TalliedQueue_jumps (vObj 2)) (vC (.py (.int 0)))) (vBin gEq (vProp ["TalliedQueue"] S_TalliedQueue_joined (vObj 2)) (vCal gTuple (vCons (vBor 3) vNil))))))))))
def t_law (S_law_planned : SV) (S_law_grab : SV) (S_law_performed : SV) (S_law_with_others : SV) (S_TalliedQueue_jumps : SV) (S_law_passes : SV) (S_Queue_served : SV) (S_Queue_waiting : SV) (S_TalliedQueue_joined : SV) (S_Queue_gone : SV) (S_Queue_word : SV) (S_Queue_str : SV) (S_law_plain_right : SV) : VS :=
  (sSeq (sFor (iR1 (vCons (vC (.py (.int 4))) vNil)) (tgName 2)
  (sSeq (sSet 3 (vBin gEq (vBin gMod (vBor 2) (vC (.py (.int 2)))) (vC (.py (.int 0)))))
  (sSeq (sAsg (vCall S_law_planned (vCons (vVar 1) (vCons (vCall S_law_grab (vCons (vVar 1) (vCons (vC (.py (.int 41))) vNil))) (vCons (vVar 3) vNil)))) (tgUnl 2 (tgCons (tgName 4) (tgCons (tgName 5) tgNil))))
  (sSeq (sPar [6, 7] (mCons true (vCall S_law_performed (vCons (vVar 4) vNil)) (mCons true (vCall S_law_performed (vCons (vCall S_law_with_others (vCons (vVar 4) (vCons (vC (.py (.int 0))) vNil))) vNil)) mNil)))
  (sSeq (sIf (wAnd (vTst (vBor 3)) (vTst (vBin gNe (vProp ["TalliedQueue"] S_TalliedQueue_jumps (vObj 6)) (vCall S_law_passes (vCons (vBin gAdd (vMethQ qNs "served" (fun _ => svW .none S_Queue_served) (vObj 6) vNil) (vMethQ qNs "waiting" (fun _ => svW .none S_Queue_waiting) (vObj 6) vNil)) vNil)))))
  (sRet (vC (.py (.bool false))))
  sNext)
  (sSeq (sIf (vTst (vBin gNe (vLst (vCons (vProp ["TalliedQueue"] S_TalliedQueue_joined (vObj 6)) (vCons (vProp ["TalliedQueue"] S_TalliedQueue_jumps (vObj 6)) vNil))) (vLst (vCons (vBin gIx (vBor 5) (vC (.py (.int 4)))) (vCons (vBin gIx (vBor 5) (vC (.py (.int 5)))) vNil)))))
  (sRet (vC (.py (.bool false))))
  sNext)
  (sSeq (sSet 8 (vLst (vCons (vMethQ qNs "waiting" (fun _ => svW .none S_Queue_waiting) (vObj 6) vNil) (vCons (vMethQ qNs "served" (fun _ => svW .none S_Queue_served) (vObj 6) vNil) (vCons (vMethQ qNs "gone" (fun _ => svW .none S_Queue_gone) (vObj 6) vNil) (vCons (vProp ["TalliedQueue"] S_TalliedQueue_joined (vObj 6)) (vCons (vProp ["TalliedQueue"] S_TalliedQueue_jumps (vObj 6)) (vCons (vMethQ qNs "word" (fun _ => S_Queue_word) (vObj 6) vNil) vNil))))))))
  (sSeq (sSet 9 (vLst (vCons (vMethQ qNs "waiting" (fun _ => svW .none S_Queue_waiting) (vObj 7) vNil) (vCons (vMethQ qNs "served" (fun _ => svW .none S_Queue_served) (vObj 7) vNil) (vCons (vMethQ qNs "gone" (fun _ => svW .none S_Queue_gone) (vObj 7) vNil) (vCons (vProp ["TalliedQueue"] S_TalliedQueue_joined (vObj 7)) (vCons (vProp ["TalliedQueue"] S_TalliedQueue_jumps (vObj 7)) (vCons (vMethQ qNs "word" (fun _ => S_Queue_word) (vObj 7) vNil) vNil))))))))
  (sSeq (sIf (wOr (vTst (vBin gNe (vBor 8) (vBor 9))) (vTst (vBin gNe (vStrQ qNs (fun _ => S_Queue_str) (vObj 6)) (vStrQ qNs (fun _ => S_Queue_str) (vObj 7)))))
  (sRet (vC (.py (.bool false))))
  sNext)
  (sIf (wAnd (vTst (vBor 3)) (wOr (wNot (vTst (vCall S_law_plain_right (vCons (vVar 4) (vCons (vC (.py (.int 1))) vNil))))) (wNot (vTst (vCall S_law_plain_right (vCons (vVar 4) (vCons (vC (.py (.int 2))) vNil)))))))
  (sRet (vC (.py (.bool false))))
  sNext))))))))))
  (sRet (vC (.py (.bool true)))))
end LawP
set_option Elab.async false
set_option linter.all false
set_option maxRecDepth 100000
set_option maxHeartbeats 4000000
namespace LawP
open PySem PySem.Spec PyProof.Rows L2 VL
/-! M46: whole groups stay together -/
end LawP
namespace LawP
open PySem PySem.Spec PyProof.Rows L2 VL
/-! ### the blocks of a line -/
/-- blocks: not empty, one group each, another group each, in order -/
structure BlkOk (g : List Int) (acc : List (List Nat)) : Prop where
  ne : ∀ b ∈ acc, b ≠ []
  same : ∀ b ∈ acc, ∀ x ∈ b, ∀ y ∈ b, g[x]? = g[y]?
  dif : acc.Pairwise fun b c => ∀ x ∈ b, ∀ y ∈ c, g[x]? ≠ g[y]?
  up : ∀ b ∈ acc, b.Pairwise (· < ·)
end LawP
set_option Elab.async false
set_option linter.all false
set_option maxRecDepth 100000
set_option maxHeartbeats 4000000
namespace LawP
open PySem PySem.Spec PyProof.Rows L2 VL
/-! M47: queues with other groups; how many were passed -/
/-- the pairs of which the greater one comes first -/
def invN : List Nat → Nat
  | [] => 0
  | x :: xs => (xs.filter fun y => decide (y < x)).length + invN xs
theorem inv_ins {m : Nat} : ∀ {A B : List Nat}, (∀ x ∈ A ++ B, x < m) → invN (A ++ m :: B) = invN (A ++ B) + B.length
  | [], B, h => by
    have : B.filter (fun y => decide (y < m)) = B := List.filter_eq_self.mpr fun x hx => by simpa using h x (by simpa using hx)
    simp only [List.nil_append, invN, this]; omega
  | a :: A, B, h => by
    have ha := h a (by simp)
    have ih := inv_ins (A := A) (B := B) (m := m) (fun x hx => h x (by rw [List.cons_append]; exact List.mem_cons_of_mem _ hx))
    have : (A ++ m :: B).filter (fun y => decide (y < a)) = (A ++ B).filter (fun y => decide (y < a)) := by
      rw [List.filter_append, List.filter_append, List.filter_cons_of_neg (by simp; omega)]
    simp only [List.cons_append, invN, this, ih]; omega
theorem inv_snoc (x : Nat) : ∀ o : List Nat, invN (o ++ [x]) = invN o + (o.filter fun y => decide (x < y)).length
  | [] => rfl
  | a :: o => by
    have ih := inv_snoc x o
    simp only [List.cons_append, invN, ih, List.filter_append, List.length_append, List.filter_cons, List.filter_nil]
    by_cases h : x < a <;> simp [h] <;> omega
theorem pass_inv (o : List Nat) : ((List.range o.length).map fun k => ((o.take k).filter fun y => decide (o.getD k 0 < y)).length).sum = invN o := by
  have : ∀ n, n ≤ o.length → ((List.range n).map fun k => ((o.take k).filter fun y => decide (o.getD k 0 < y)).length).sum = invN (o.take n) := by
    intro n
    induction n with
    | zero => intro _; simp [invN]
    | succ n ih =>
      intro h
      rw [List.range_succ, List.map_append, List.sum_append, ih (by omega), List.take_add_one, List.getElem?_eq_getElem (by omega)]
      simp only [Option.toList_some]
      rw [inv_snoc]
      simp [List.getD_eq_getElem?_getD, List.getElem?_eq_getElem (show n < o.length by omega)]
  simpa using this o.length (Nat.le_refl _)
/-- edits that may be done one after another -/
def okRun : Sc → List EdV → Prop
  | _, [] => True
  | s, e :: es => EdOk e ∧ stepEr s e = none ∧ okRun (stepSc s e) es
abbrev runSc (s : Sc) (es : List EdV) : Sc := es.foldl stepSc s
theorem okRun.snoc {e : EdV} : ∀ {es : List EdV} {s : Sc}, okRun s es → EdOk e → stepEr (runSc s es) e = none → okRun s (es ++ [e])
  | [], s, _, h1, h2 => ⟨h1, h2, trivial⟩
  | x :: es, s, ⟨a, b, c⟩, h1, h2 => ⟨a, b, okRun.snoc c h1 h2⟩
theorem okRun.lv : ∀ {es : List EdV} {s : Sc}, Lv s → okRun s es → Lv (runSc s es)
  | [], s, l, _ => l
  | x :: es, s, l, ⟨a, b, c⟩ => okRun.lv (es := es) (l.step a b) c
theorem okRun.at : ∀ {es : List EdV} {s : Sc} {i : Nat} {e : EdV}, okRun s es → es[i]? = some e → EdOk e ∧ stepEr (runSc s (es.take i)) e = none
  | [], s, i, e, _, h => by simp at h
  | x :: es, s, 0, e, ⟨a, b, _⟩, h => by cases h; exact ⟨a, b⟩
  | x :: es, s, i + 1, e, ⟨_, _, c⟩, h => okRun.at (i := i) c (by simpa using h)
theorem run_snoc (s : Sc) (es : List EdV) (e : EdV) : runSc s (es ++ [e]) = stepSc (runSc s es) e := by simp [runSc]
def stays : EdV → Prop
  | .away _ => False
  | _ => True
structure StS (s : Sc) : Prop where
  left : s.left = []
  pass : s.passed = invN (s.done ++ s.line)
  lt : ∀ x ∈ s.done ++ s.line, x < s.g.length
theorem StS.nil : StS Sc.nil := ⟨rfl, rfl, by simp [Sc.nil]⟩
theorem StS.step {s : Sc} (h : StS s) {e : EdV} (he : stays e) (hs : stepEr s e = none) : StS (stepSc s e) := by
  cases e with
  | arr v =>
    have p := s.plc_le (intOf v)
    have el : s.done ++ (s.line.take (s.plc (intOf v)) ++ s.line.drop (s.plc (intOf v))) = s.done ++ s.line := by rw [List.take_append_drop]
    refine ⟨h.left, ?_, fun x hx => ?_⟩
    · show s.passed + (s.line.length - s.plc (intOf v)) = invN (s.done ++ (s.line.take (s.plc (intOf v)) ++ s.g.length :: s.line.drop (s.plc (intOf v))))
      rw [← List.append_assoc, inv_ins (fun x hx => h.lt x (by rw [List.append_assoc, el] at hx; exact hx)), List.append_assoc, el, ← h.pass, List.length_drop]
    · show x < (s.g ++ [intOf v]).length
      rw [List.length_append]
      have hx : x ∈ s.done ++ (s.line.take (s.plc (intOf v)) ++ s.g.length :: s.line.drop (s.plc (intOf v))) := hx
      rw [← List.append_assoc] at hx
      rcases List.mem_append.mp hx with hx | hx
      · have := h.lt x (by rw [← el, ← List.append_assoc]; exact List.mem_append_left _ hx); simp; omega
      · rcases List.mem_cons.mp hx with rfl | hx
        · simp
        · have := h.lt x (by rw [← el, ← List.append_assoc]; exact List.mem_append_right _ hx); simp; omega
  | srv =>
    have ne := step_srv hs
    obtain ⟨x, r, e⟩ := List.exists_cons_of_ne_nil ne
    have el : (s.done ++ s.line.take 1) ++ s.line.tail = s.done ++ s.line := by rw [e]; simp
    exact ⟨h.left, by show s.passed = invN ((s.done ++ s.line.take 1) ++ s.line.tail); rw [el]; exact h.pass, fun y hy => h.lt y (by rw [← el]; exact hy)⟩
  | away v => exact he.elim
theorem StS.run : ∀ {es : List EdV} {s : Sc}, StS s → (∀ e ∈ es, stays e) → okRun s es → StS (runSc s es)
  | [], s, h, _, _ => h
  | x :: es, s, h, ha, ⟨a, b, c⟩ => StS.run (es := es) (h.step (ha x List.mem_cons_self) b) (fun e he => ha e (List.mem_cons_of_mem _ he)) c
/-! the groups renamed -/
def nmF (nm : List Int) (g : Int) : Int := 3 * ((nm.idxOf g : Nat) : Int) + 1
def nmAdd (nm : List Int) (g : Int) : List Int := if g ∈ nm then nm else nm ++ [g]
def nmStep (nm : List Int) : EdV → List Int
  | .arr v => nmAdd nm (intOf v)
  | _ => nm
def othG (k : Nat) (nm : List Int) (i : Nat) (g : Int) : Int := if k = 0 then nmF (nmAdd nm g) g else if k = 1 then 4 else (i : Int)
def othE (k : Nat) (nm : List Int) (i : Nat) : EdV → EdV
  | .arr v => .arr (.int (othG k nm i (intOf v)))
  | e => e
def oth (k : Nat) : List Int → Nat → List EdV → List EdV
  | _, _, [] => []
  | nm, i, e :: es => othE k nm i e :: oth k (nmStep nm e) (i + 1) es
theorem oth_len (k : Nat) : ∀ (es : List EdV) (nm : List Int) (i : Nat), (oth k nm i es).length = es.length
  | [], _, _ => rfl
  | e :: es, nm, i => by simp [oth, oth_len k es]
theorem oth_snoc (k : Nat) (e : EdV) : ∀ (es : List EdV) (nm : List Int) (i : Nat), oth k nm i (es ++ [e]) = oth k nm i es ++ [othE k (es.foldl nmStep nm) (i + es.length) e]
  | [], nm, i => rfl
  | x :: es, nm, i => by
    have := oth_snoc k e es (nmStep nm x) (i + 1)
    simp only [List.cons_append, oth, this, List.foldl_cons, List.length_cons]
    rw [show i + 1 + es.length = i + (es.length + 1) by omega]
theorem nm_old {nm : List Int} {g k : Int} (h : g ∈ nm) : nmF (nmAdd nm k) g = nmF nm g := by
  unfold nmAdd nmF
  split
  · rfl
  · rw [List.idxOf_append, if_pos h]
theorem nm_new {nm : List Int} {k : Int} : k ∈ nmAdd nm k := by
  unfold nmAdd
  split
  · assumption
  · simp
theorem nm_len (nm : List Int) (k : Int) : (nmAdd nm k).length ≤ nm.length + 1 := by
  unfold nmAdd
  split <;> simp
theorem nm_sub {nm : List Int} {g k : Int} (h : g ∈ nm) : g ∈ nmAdd nm k := by
  unfold nmAdd
  split
  · exact h
  · exact List.mem_append_left _ h
theorem nmF_inj {nm : List Int} {g k : Int} (h : g ∈ nm) (h2 : k ∈ nm) (e : nmF nm g = nmF nm k) : g = k := by
  unfold nmF at e
  have e' : nm.idxOf g = nm.idxOf k := by omega
  have h1 := List.getElem_idxOf (List.idxOf_lt_length_of_mem h)
  have h3 := List.getElem_idxOf (List.idxOf_lt_length_of_mem h2)
  rw [← h1, ← h3]
  congr 1
theorem nmF_lt {nm : List Int} {g : Int} (h : g ∈ nm) : 0 ≤ nmF nm g ∧ nmF nm g ≤ 3 * (nm.length : Int) + 1 := by
  have := List.idxOf_lt_length_of_mem h
  unfold nmF
  omega
def renS (nm : List Int) (s : Sc) : Sc := { s with g := s.g.map (nmF nm) }
theorem hits_ren {nm : List Int} {g : List Int} {line : List Nat} {k : Int} (h : ∀ x ∈ g, x ∈ nm) : hits (g.map (nmF nm)) line (nmF (nmAdd nm k) k) = hits g line k := by
  unfold hits
  apply List.filter_congr
  intro j _
  rw [List.getElem?_map]
  cases e : g[line.getD j 0]? with
  | none => simp
  | some x =>
    have hx := h x (List.mem_of_getElem? e)
    simp only [Option.map_some]
    by_cases q : x = k
    · subst q
      simp [nm_old hx]
    · have : nmF nm x ≠ nmF (nmAdd nm k) k := fun z => q (nmF_inj (nm_sub hx) nm_new (by rw [nm_old hx]; exact z))
      simp [q, this]
theorem isInt_ok {i lo hi : Int} (h0 : lo ≤ i) (h1 : i ≤ hi) : isInt (.int i) lo hi = true := by simp [isInt, h0, h1]
theorem ren_step {nm : List Int} {s : Sc} {e : EdV} (i : Nat) (hs : ∀ g ∈ s.g, g ∈ nm) (hn : nm.length ≤ s.g.length) (l : Lv s) (ho : EdOk e) (he : stepEr s e = none) :
    EdOk (othE 0 nm i e) ∧ stepEr (renS nm s) (othE 0 nm i e) = none ∧ stepSc (renS nm s) (othE 0 nm i e) = renS (nmStep nm e) (stepSc s e) ∧ (∀ g ∈ (stepSc s e).g, g ∈ nmStep nm e) ∧ (nmStep nm e).length ≤ (stepSc s e).g.length := by
  cases e with
  | arr v =>
    obtain ⟨k, rfl, h0, h1⟩ := ho
    have hb := nmF_lt (nm_new (nm := nm) (k := k))
    have hl := nm_len nm k
    have h40 := (step_arr he).2
    have gl := l.ok.gl
    have heq : hits (s.g.map (nmF nm)) s.line (nmF (nmAdd nm k) k) = hits s.g s.line k := hits_ren hs
    have hbeh : behind (s.g.map (nmF nm)) s.line (nmF (nmAdd nm k) k) = behind s.g s.line k := by unfold behind; rw [heq]
    have hplc : (renS nm s).plc (nmF (nmAdd nm k) k) = s.plc k := by
      show (behind (s.g.map (nmF nm)) s.line (nmF (nmAdd nm k) k)).getD s.line.length = _
      rw [hbeh]; rfl
    have hgm : s.g.map (nmF (nmAdd nm k)) = s.g.map (nmF nm) := List.map_congr_left fun g hg => nm_old (hs g hg)
    refine ⟨⟨_, rfl, ?_, ?_⟩, ?_, ?_, fun g hg => ?_, ?_⟩
    · show 0 ≤ nmF (nmAdd nm k) k; omega
    · show nmF (nmAdd nm k) k ≤ _; omega
    · have ee : othE 0 nm i (.arr (.int k)) = .arr (.int (nmF (nmAdd nm k) k)) := rfl
      rw [ee]
      simp only [stepEr]
      have hv : isInt (.int (nmF (nmAdd nm k) k)) 0 1000000000 = true := isInt_ok (by omega) (by omega)
      have hg : (renS nm s).g.length ≠ 40 := by simp [renS]; omega
      rw [if_pos hv, if_neg hg]
    · show (renS nm s).arr (nmF (nmAdd nm k) k) = renS (nmAdd nm k) (s.arr k)
      unfold Sc.arr
      rw [hplc]
      simp only [renS, hbeh, List.map_append, List.map_cons, List.map_nil, hgm, List.length_map]
    · rcases List.mem_append.mp hg with hg | hg
      · exact nm_sub (hs g hg)
      · rw [List.mem_singleton.mp hg]; exact nm_new
    · show (nmAdd nm k).length ≤ (s.g ++ [k]).length
      simp; omega
  | srv =>
    have ne := step_srv he
    refine ⟨trivial, ?_, rfl, hs, hn⟩
    show (if s.line = [] then _ else _) = none
    rw [if_neg ne]
  | away v =>
    refine ⟨ho, ?_, rfl, hs, hn⟩
    have : stepEr (renS nm s) (.away v) = stepEr s (.away v) := by
      show (if isInt v 0 (((s.g.map (nmF nm)).length : Int) - 1) = true then _ else _) = _
      rw [List.length_map]
      rfl
    rw [← he, ← this]
    rfl
theorem ren_run : ∀ {es : List EdV} {nm : List Int} {s : Sc} (i : Nat), (∀ g ∈ s.g, g ∈ nm) → nm.length ≤ s.g.length → Lv s → okRun s es → okRun (renS nm s) (oth 0 nm i es) ∧ runSc (renS nm s) (oth 0 nm i es) = renS (es.foldl nmStep nm) (runSc s es)
  | [], nm, s, i, _, _, _, _ => ⟨trivial, rfl⟩
  | e :: es, nm, s, i, hs, hn, l, ⟨a, b, c⟩ => by
    obtain ⟨h1, h2, h3, h4, h5⟩ := ren_step i hs hn l a b
    obtain ⟨h6, h7⟩ := ren_run (es := es) (i + 1) h4 h5 (l.step a b) c
    rw [← h3] at h6 h7
    exact ⟨⟨h1, h2, h6⟩, h7⟩
/-! one group for all, or all groups different -/
def dueE (k : Nat) (s : Sc) : EdV → List Nat
  | .arr _ => if 0 < s.line.length ∧ k = 1 then [s.g.length] else []
  | _ => []
def dueL (k : Nat) : Sc → List EdV → List Nat
  | _, [] => []
  | s, e :: es => dueE k s e ++ dueL k (stepSc s e) es
theorem due_snoc (k : Nat) (e : EdV) : ∀ (es : List EdV) (s : Sc), dueL k s (es ++ [e]) = dueL k s es ++ dueE k (runSc s es) e
  | [], s => by simp [dueL]
  | x :: es, s => by simp [dueL, due_snoc k e es]
/-- the state s, and the state p of the queue with the other groups -/
structure PlR (k i : Nat) (s p : Sc) (due : List Nat) : Prop where
  gl : p.g.length = s.g.length
  ll : p.line.length = s.line.length
  pass : p.passed = 0
  ord : p.done ++ p.line = List.range p.g.length
  mated : p.mated = due
  gs : ∀ g ∈ p.g, if k = 1 then g = 4 else g < (i : Int)
theorem PlR.nil (k : Nat) : PlR k 0 Sc.nil Sc.nil [] := ⟨rfl, rfl, rfl, rfl, rfl, by simp [Sc.nil]⟩
theorem PlR.step {k i : Nat} {s p : Sc} {due : List Nat} (hk : k = 1 ∨ k = 2) (hi : i ≤ 1000) {e : EdV} (nm : List Int) (h : PlR k i s p due) (he : stays e) (hs : stepEr s e = none) (gl : s.g.length ≤ 40) :
    EdOk (othE k nm i e) ∧ stepEr p (othE k nm i e) = none ∧ PlR k (i + 1) (stepSc s e) (stepSc p (othE k nm i e)) (due ++ dueE k s e) := by
  have hpl := h.gl
  have hll := h.ll
  have mem : ∀ x ∈ p.line, x < p.g.length := fun x hx => List.mem_range.mp (by rw [← h.ord]; exact List.mem_append_right _ hx)
  cases e with
  | arr v =>
    have h40 := (step_arr hs).2
    have key : ∀ G : Int, G = othG k nm i (intOf v) → 0 ≤ G ∧ G ≤ 1000000000 ∧ behind p.g p.line G = if 0 < p.line.length ∧ k = 1 then some p.line.length else none := fun G hG => by
      rcases hk with rfl | rfl
      · have e4 : G = 4 := by rw [hG]; rfl
        subst e4
        refine ⟨by omega, by omega, ?_⟩
        have hh : hits p.g p.line 4 = List.range p.line.length := by
          unfold hits
          apply List.filter_eq_self.mpr
          intro j hj
          have hj := List.mem_range.mp hj
          have hm := mem _ (List.getElem_mem hj)
          have h4 := h.gs _ (List.getElem_mem hm)
          simp only [if_true] at h4
          simp [List.getD_eq_getElem?_getD, List.getElem?_eq_getElem hj, List.getElem?_eq_getElem hm, h4]
        unfold behind
        rw [hh]
        cases n : p.line.length with
        | zero => simp
        | succ n => simp [List.range_succ]
      · have e4 : G = (i : Int) := by rw [hG]; rfl
        subst e4
        refine ⟨by omega, by omega, ?_⟩
        have hh : hits p.g p.line (i : Int) = [] := by
          unfold hits
          apply List.filter_eq_nil_iff.mpr
          intro j _ hj
          have hj : p.g[p.line.getD j 0]? = some (i : Int) := by simpa using hj
          have h4 := h.gs _ (List.mem_of_getElem? hj)
          simp at h4
        unfold behind
        rw [hh]
        simp
    obtain ⟨k0, k1, kb⟩ := key _ rfl
    have hplc : p.plc (othG k nm i (intOf v)) = p.line.length := by
      unfold Sc.plc
      rw [kb]
      split <;> rfl
    refine ⟨⟨_, rfl, k0, k1⟩, ?_, ?_⟩
    · show (if isInt (.int (othG k nm i (intOf v))) 0 1000000000 = true then _ else _) = none
      rw [if_pos (isInt_ok k0 k1), if_neg (by omega)]
    · show PlR k (i + 1) (s.arr (intOf v)) (p.arr (othG k nm i (intOf v))) _
      refine ⟨by simp [Sc.arr]; omega, ?_, ?_, ?_, ?_, fun g hg => ?_⟩
      · have := s.plc_le (intOf v)
        simp only [Sc.arr, hplc, List.length_append, List.length_cons, List.length_take, List.length_drop]
        omega
      · simp only [Sc.arr, hplc, h.pass]; omega
      · simp only [Sc.arr, hplc, List.take_length, List.drop_length, List.length_append, List.length_cons, List.length_nil]
        rw [← List.append_assoc, h.ord, List.range_succ]
      · simp only [Sc.arr, kb, h.mated, dueE, hpl, hll]
        by_cases c : 0 < s.line.length ∧ k = 1
        · simp [c]
        · simp [c]
      · rcases List.mem_append.mp hg with hg | hg
        · have := h.gs g hg
          rcases hk with rfl | rfl
          · simpa using this
          · simp at this ⊢; omega
        · rw [List.mem_singleton.mp hg]
          rcases hk with rfl | rfl
          · rfl
          · show (if (2 : Nat) = 1 then _ else othG 2 nm i (intOf v) < _)
            simp [othG]; omega
  | srv =>
    have ne := step_srv hs
    have lp : 0 < s.line.length := List.length_pos_iff.mpr ne
    have np : p.line ≠ [] := List.length_pos_iff.mp (by omega)
    obtain ⟨x, r, e⟩ := List.exists_cons_of_ne_nil np
    refine ⟨trivial, ?_, ?_⟩
    · show (if p.line = [] then _ else _) = none
      rw [if_neg np]
    · show PlR k (i + 1) s.srv p.srv _
      refine ⟨h.gl, ?_, h.pass, ?_, by simp [dueE, Sc.srv, h.mated], fun g hg => ?_⟩
      · simp only [Sc.srv, List.length_tail]; omega
      · have o := h.ord
        rw [e] at o
        simp only [Sc.srv, e, List.tail_cons, List.take_succ_cons, List.take_zero, List.append_assoc, List.cons_append, List.nil_append]
        exact o
      · have := h.gs g hg
        rcases hk with rfl | rfl
        · simpa using this
        · simp at this ⊢; omega
  | away v => exact he.elim
theorem PlR.run {k : Nat} (hk : k = 1 ∨ k = 2) : ∀ {es : List EdV} {i : Nat} {s p : Sc} {due : List Nat} (nm : List Int), i + es.length ≤ 1000 → PlR k i s p due → (∀ e ∈ es, stays e) → Lv s → okRun s es →
    okRun p (oth k nm i es) ∧ PlR k (i + es.length) (runSc s es) (runSc p (oth k nm i es)) (due ++ dueL k s es)
  | [], i, s, p, due, nm, _, h, _, _, _ => ⟨trivial, by simpa [dueL, oth] using h⟩
  | e :: es, i, s, p, due, nm, hi, h, ha, l, ⟨a, b, c⟩ => by
    simp only [List.length_cons] at hi
    obtain ⟨h1, h2, h3⟩ := h.step hk (by omega) nm (ha e List.mem_cons_self) b l.ok.gl
    obtain ⟨h4, h5⟩ := PlR.run hk (es := es) (nmStep nm e) (by omega) h3 (fun x hx => ha x (List.mem_cons_of_mem _ hx)) (l.step a b) c
    refine ⟨⟨h1, h2, h4⟩, ?_⟩
    simp only [dueL, List.length_cons]
    rw [show i + (es.length + 1) = i + 1 + es.length by omega, ← List.append_assoc]
    exact h5
end LawP
set_option Elab.async false
set_option linter.all false
set_option maxRecDepth 100000
set_option maxHeartbeats 4000000
namespace LawP
open PySem PySem.Spec PyProof.Rows L2 VL
theorem tq_in : Str.ofString "TalliedQueue" ∈ qNs := by simp
@[simp] def S_TalliedQueue_joined : SV := fun ds Q _ => ∃ a q, ds = [qD a "TalliedQueue" q] ∧ QOk q ∧ Q (.py (tN q.now.mated))
theorem l_TalliedQueue_joined : ∀ ds Q E, S_TalliedQueue_joined ds Q E → t_TalliedQueue_joined (envOf 1 ds) (fin Q E) := by
  rintro ds Q E ⟨a, q, rfl, o, k⟩
  simp [t_TalliedQueue_joined, -qNs, tq_in, qF_scenes, o.at_now, scF_mated]
  exact k
@[simp] def S_TalliedQueue_jumps : SV := fun ds Q _ => ∃ a q, ds = [qD a "TalliedQueue" q] ∧ QOk q ∧ Q (.py (pN q.now.passed))
theorem l_TalliedQueue_jumps : ∀ ds Q E, S_TalliedQueue_jumps ds Q E → t_TalliedQueue_jumps (envOf 1 ds) (fin Q E) := by
  rintro ds Q E ⟨a, q, rfl, o, k⟩
  simp [t_TalliedQueue_jumps, -qNs, tq_in, qF_scenes, o.at_now, scF_passed]
  exact k
theorem rangeP_pN (n : Nat) : rangeP 0 n = (List.range n).map pN := by
  rw [rangeP_ints, List.map_map]
  apply List.map_congr_left
  intro i _
  simp [pN]
@[simp] def S_law_passes : SV := fun ds Q _ => ∃ o : List Nat, ds = [.py (tN o)] ∧ o.length ≤ 100 ∧ Q (.py (pN (invN o)))
theorem l_law_passes : ∀ ds Q E, S_law_passes ds Q E → t_law_passes (envOf 3 ds) (fin Q E) := by
  rintro ds Q E ⟨o, rfl, hl, k⟩
  simp [t_law_passes, -lcGo]
  refine ⟨by omega, ?_⟩
  rw [rangeP_pN]
  refine lc_encM pN (fun i => pN ((o.take i).filter fun y => decide (o.getD i 0 < y)).length) (fun j i hj kk hk => ?_) (by rw [List.length_range]; omega) ?_
  · have hi : i < o.length := List.mem_range.mp (List.mem_of_getElem? hj)
    have hj' := List.getElem?_range hi
    simp [lcStep, -lcGo, gSl]
    rw [show pN i = .int (i : Int) from rfl]
    simp only []
    rw [cutL_take _ (by omega), Int.toNat_natCast, ← List.map_take]
    refine lc_encF pN (fun y => decide (o.getD i 0 < y)) pN (fun m y hm kk2 h1 h2 => ?_) (by rw [List.length_take]; omega) ?_
    · simp [lcStep]
      refine ⟨_, atI_nat (by rw [List.getElem?_map, List.getElem?_eq_getElem hi]; rfl), ?_⟩
      have e : o.getD i 0 = o[i] := by simp [List.getD_eq_getElem?_getD, List.getElem?_eq_getElem hi]
      show if decide ((o[i] : Int) < (y : Int)) = true then kk2 (some (pN y)) else kk2 none
      by_cases c : o[i] < y
      · rw [if_pos (by simpa using c)]
        exact h1 (by rw [e]; simpa using c)
      · rw [if_neg (by simpa using c)]
        exact h2 (by rw [e]; simpa using c)
    · simp only [List.length_map]
      exact hk
  · refine ⟨_, by rw [show ((List.range o.length).map fun i => pN ((o.take i).filter fun y => decide (o.getD i 0 < y)).length) = ((List.range o.length).map fun i => ((o.take i).filter fun y => decide (o.getD i 0 < y)).length).map pN from by rw [List.map_map]; rfl]; exact allI_pN _, ?_⟩
    have e := pass_inv o
    have e2 : (((List.range o.length).map fun i => ((o.take i).filter fun y => decide (o.getD i 0 < y)).length).map fun n : Nat => (n : Int)).sum = ((invN o : Nat) : Int) := by
      rw [← e]
      generalize ((List.range o.length).map fun i => ((o.take i).filter fun y => decide (o.getD i 0 < y)).length) = L
      induction L with
      | nil => rfl
      | cons x L ih => simp [ih]
    rw [e2]
    exact k
/-! the text of a tallied queue -/
def toldT (q : Qs) : Str := toldS q ++ (", " : Str) ++ (toString (q.now.mated.length : Int) : Str) ++ (" joined, " : Str) ++ (toString (q.now.passed : Int) : Str) ++ (" jumps" : Str)
theorem decS4 : ∀ n : Nat, n ≤ 1600 → (Str.ofString (n : Int).repr).length ≤ 4 ∧ n.log2 < 1920 := by decide +kernel
@[simp] def S_TalliedQueue_told : SV := fun ds Q _ => ∃ a q, ds = [qD a "TalliedQueue" q] ∧ QOk q ∧ Q (.py (.str (toldT q)))
theorem toldT_le {q : Qs} (o : QOk q) : (toldT q).length ≤ 200 := by
  have h1 := told_le o
  have h2 := decS4 q.now.mated.length (by have := o.now.1.gl; have := o.now.1.ml; omega)
  have h3 := decS4 q.now.passed (by have := o.now.1.gl; have := o.now.1.pl; omega)
  have e1 : (Str.ofString ", ").length = 2 := by decide
  have e2 : (Str.ofString " joined, ").length = 9 := by decide
  have e3 : (Str.ofString " jumps").length = 6 := by decide
  show (toldS q ++ Str.ofString ", " ++ Str.ofString (q.now.mated.length : Int).repr ++ Str.ofString " joined, " ++ Str.ofString (q.now.passed : Int).repr ++ Str.ofString " jumps").length ≤ 200
  simp only [len_app]
  omega
theorem l_TalliedQueue_told : ∀ ds Q E, S_TalliedQueue_told ds Q E → ∃ a fs, ds = [.rob a "TalliedQueue" fs] ∧ S_Queue_told ds (fun d => t_TalliedQueue_told S_TalliedQueue_jumps S_TalliedQueue_joined [.shr (.rob a "TalliedQueue" fs), .un, .shr d] (fin Q E)) E := by
  rintro ds Q E ⟨a, q, rfl, o, k⟩
  refine ⟨a, qF q, rfl, a, _, q, rfl, tq_in, o, ?_⟩
  have h1 := told_le o
  have h2 := decS4 q.now.mated.length (by have := o.now.1.gl; have := o.now.1.ml; omega)
  have h3 := decS4 q.now.passed (by have := o.now.1.gl; have := o.now.1.pl; omega)
  have e1 : (Str.ofString ", ").length = 2 := by decide
  have e2 : (Str.ofString " joined, ").length = 9 := by decide
  have e3 : (Str.ofString " jumps").length = 6 := by decide
  have e0 : Str.empty.length = 0 := rfl
  have e00 : ∀ x : Str, Str.empty ++ x = x := fun x => by
    show (⟨Str.empty.cps ++ x.cps⟩ : Str) = x
    cases x; simp [Str.empty]
  simp [t_TalliedQueue_told, -qNs, -List.lookup_eq_none_iff, -hallF, qF_hall, -hallO, hallO_sc, ↓rob_ex, two_ex, vObj_s, vObj_o, -vObj, sFldQ_o, -sFldQ, mMeth_o, -mMeth, qF_kept, -S_TalliedQueue_jumps, -S_TalliedQueue_joined, len_app]
  have h21 := h2.1
  have h31 := h3.1
  refine ⟨by omega, by omega, by rw [e0, e1]; omega, a, q, rfl, o, trivial, ?_⟩
  show ((q.now.mated.map pN).length : Int).natAbs.log2 < 1920 ∧ _
  rw [List.length_map]
  refine ⟨h2.2, _, rfl, by rw [e0, e1]; omega, by rw [e0, e1, e2]; omega, a, q, rfl, o, trivial, h3.2, _, rfl, by rw [e0, e1, e2]; omega, by rw [e0, e1, e2, e3]; omega, ?_⟩
  rw [e00]
  exact k
def S_toldT : Str → SV := fun n => if n = "TalliedQueue" then S_TalliedQueue_told else S_Queue_told
@[simp] def S_strT : SV := S_TalliedQueue_told
theorem l_strT : ∀ ds Q E, S_strT ds Q E → t_Queue_str S_toldT (envOf 1 ds) (fin Q E) := by
  rintro ds Q E ⟨a, q, rfl, o, k⟩
  simp [t_Queue_str, -qNs, -List.lookup_eq_none_iff, -hallF, qF_hall, -hallO, hallO_sc, ↓rob_ex, two_ex, vObj_s, vObj_o, -vObj, sFldQ_o, -sFldQ, mMeth_o, -mMeth, qF_told, tq_in, -S_Queue_told]
  have e : S_toldT (Str.ofString "TalliedQueue") = S_TalliedQueue_told := if_pos rfl
  rw [e]
  exact ⟨a, q, rfl, o, trivial, Nat.le_trans (toldT_le o) (by decide), k⟩
end LawP
set_option Elab.async false
set_option linter.all false
set_option maxRecDepth 100000
set_option maxHeartbeats 4000000
namespace LawP
open PySem PySem.Spec PyProof.Rows L2 VL
/-- the names that were given, as a dict -/
structure DOk (ds : List (PyData × PyData)) (nm : List Int) : Prop where
  len : ds.length = nm.length
  at_ : ∀ g : Int, getD ds (.inl g) = if g ∈ nm then some (.int (nmF nm g)) else none
theorem DOk.nil : DOk [] [] := ⟨rfl, fun g => by simp⟩
theorem putD_len2 (ds : List (PyData × PyData)) (k : Key) (x : PyData) : (putD ds k x).length = if (getD ds k).isSome = true then ds.length else ds.length + 1 := by
  have e : (ds.any fun p => decide (keyOf p.1 = some k)) = (getD ds k).isSome := by
    unfold getD
    rw [Option.isSome_map, Bool.eq_iff_iff, List.find?_isSome, List.any_eq_true]
  unfold putD
  rw [e]
  split <;> simp
theorem DOk.put {ds : List (PyData × PyData)} {nm : List Int} (h : DOk ds nm) (g : Int) : DOk (putD ds (.inl g) ((getD ds (.inl g)).getD (.int (3 * (ds.length : Int) + 1)))) (nmAdd nm g) := by
  have hg := h.at_ g
  have key : (getD ds (.inl g)).getD (.int (3 * (ds.length : Int) + 1)) = .int (nmF (nmAdd nm g) g) := by
    rw [hg]
    by_cases c : g ∈ nm
    · rw [if_pos c, Option.getD_some, nm_old c]
    · rw [if_neg c, Option.getD_none, h.len]
      unfold nmF nmAdd
      rw [if_neg c, List.idxOf_append, if_neg c]
      simp
  rw [key]
  refine ⟨?_, fun k => ?_⟩
  · rw [putD_len2, hg, h.len]
    unfold nmAdd
    by_cases c : g ∈ nm <;> simp [c]
  · rw [getD_putD]
    by_cases c : k = g
    · subst c
      rw [if_pos rfl, if_pos nm_new]
    · rw [if_neg (by simpa using c), h.at_ k]
      by_cases c2 : k ∈ nm
      · rw [if_pos c2, if_pos (nm_sub c2), nm_old c2]
      · rw [if_neg c2, if_neg]
        unfold nmAdd
        split
        · exact c2
        · simp [c2, c]
theorem run_gl : ∀ (es : List EdV) (s : Sc), (runSc s es).g.length ≤ s.g.length + es.length
  | [], s => by simp
  | e :: es, s => by
    have := run_gl es (stepSc s e)
    have h : (stepSc s e).g.length ≤ s.g.length + 1 := by cases e <;> simp [stepSc, Sc.arr, Sc.srv, Sc.away]
    show (runSc (stepSc s e) es).g.length ≤ s.g.length + (es.length + 1)
    omega
abbrev esP (es : List EdV) : PyData := .list (es.map EdV.data)
@[simp] def S_law_planned (r : Addr) : SV := fun ds Q _ => ∃ (m : Nat) (st : Bool), ds = [.raw (.ref r), .py (.int (m : Int)), .py (.bool st)] ∧ m ≤ 40 ∧ ∀ es : List EdV, okRun Sc.nil es → es.length ≤ 40 → (st = true → ∀ e ∈ es, stays e) → Q (.py (.list [esP es, scP (runSc Sc.nil es)]))
theorem l_law_planned (r : Addr) : ∀ ds Q E, S_law_planned r ds Q E → t_law_planned S_q_first (S_q_edit r) S_q_after (envOf 7 ds) (fin Q E) := by
  rintro ds Q E ⟨m, st, rfl, hm, k⟩
  simp [t_law_planned, -S_q_first, -S_q_edit, -S_q_after, -forGo, setE]
  refine ⟨[], rfl, by simp, by omega, for_inv (fun j ρ => ∃ (es : List EdV) (s5 s6 : Slot), ρ = [.shr (.raw (.ref r)), .shr (.py (.int (m : Int))), .shr (.py (.bool st)), .own (.py (esP es)), .shr (.py (scP (runSc Sc.nil es))), s5, s6] ∧ okRun Sc.nil es ∧ es.length = j ∧ (st = true → ∀ e ∈ es, stays e)) ?_ ?_ ⟨[], _, _, rfl, trivial, rfl, fun _ _ h => by cases h⟩⟩
  · rintro j y ρ hy ⟨es, s5, s6, rfl, ok, hj, hst⟩ nx ct kn
    obtain ⟨hj2, rfl⟩ := rangeP_get hy
    have lv := ok.lv Lv.nil
    have gl := run_gl es Sc.nil
    simp [-S_q_first, -S_q_edit, -S_q_after, -forGo]
    refine ⟨_, rfl, lv, fun _ => by simp [Sc.nil] at gl ⊢; omega, fun e he hs => ?_⟩
    have fin : ∀ e' : EdV, EdOk e' → stepEr (runSc Sc.nil es) e' = none → (st = true → stays e') → es.length < 16777216 ∧ S_q_after [D.py (scP (runSc Sc.nil es)), D.py e'.data] (fun x => gIx x (.py (.int 1)) fun d => nx
        [Slot.shr (D.raw (V.ref r)), Slot.shr (D.py (PyData.int (m : Int))), Slot.shr (D.py (PyData.bool st)), Slot.own (D.py (PyData.list (es.map EdV.data ++ [e'.data]))), Slot.shr d, Slot.shr (D.py (PyData.int (j : Int))), Slot.shr (D.py e'.data)]) E := fun e' he' hs' hst' => by
      refine ⟨by omega, runSc Sc.nil es, e', rfl, lv, he', hs', scP (stepSc (runSc Sc.nil es) e'), rfl, ?_⟩
      have e1 : esP (es ++ [e']) = .list (es.map EdV.data ++ [e'.data]) := by simp [esP]
      show nx _
      exact (kn _ ⟨es ++ [e'], _, _, by rw [e1, run_snoc], ok.snoc he' hs', by simp; omega, fun h x hx => by
        rcases List.mem_append.mp hx with hx | hx
        · exact hst h x hx
        · rw [List.mem_singleton.mp hx]; exact hst' h⟩).1
    have d1 : (Str.ofString "arrive" == Str.ofString "go_away") = false := by decide
    have d2 : (Str.ofString "serve" == Str.ofString "go_away") = false := by decide
    cases e with
    | arr v =>
      have f := fin (.arr v) he hs (fun _ => trivial)
      simp only [EdV.data] at f
      refine ⟨_, rfl, rfl, rfl, .inl (by decide), ?_⟩
      simpa [EdV.data, -S_q_after, d1] using f
    | srv =>
      have f := fin .srv he hs (fun _ => trivial)
      simp only [EdV.data] at f
      refine ⟨_, rfl, rfl, rfl, .inl (by decide), ?_⟩
      simpa [EdV.data, -S_q_after, d2] using f
    | away v =>
      obtain ⟨p, rfl, hp⟩ := he
      have hm := step_away hs
      have ne : (runSc Sc.nil es).line ≠ [] := fun z => by rw [z] at hm; cases hm
      have f1 := fin .srv trivial (by simp only [stepEr]; rw [if_neg ne]) (fun _ => trivial)
      have f2 : st ≠ true → _ := fun h => fin (.away (.int (p : Int))) ⟨p, rfl, hp⟩ hs (fun z => absurd z h)
      simp only [EdV.data] at f1 f2
      refine ⟨_, rfl, rfl, rfl, .inl (by decide), ?_⟩
      cases st with
      | true => simpa [EdV.data, -S_q_after] using f1
      | false => simpa [EdV.data, -S_q_after] using f2 (by decide)
  · rintro ρ ⟨es, s5, s6, rfl, ok, hj, hst⟩
    rw [rangeP_len] at hj
    simp
    exact k es ok (by omega) hst
@[simp] def S_law_performed : SV := fun ds Q _ => ∃ es : List EdV, ds = [.py (esP es)] ∧ okRun Sc.nil es ∧ es.length ≤ 40 ∧ ∀ (a : Addr) (q : Qs), LvQ q → q.kept = es → q.now = runSc Sc.nil es → Q (qD a "TalliedQueue" q)
theorem l_law_performed : ∀ ds Q E, S_law_performed ds Q E → t_law_performed S_Queue_init S_q_call (envOf 3 ds) (finN Q E) := by
  rintro ds Q E ⟨es, rfl, ok, hl, k⟩
  simp [t_law_performed, -S_q_call, -forGo, -qNs, tq_in]
  intro a
  refine for_enc' EdV.data (fun j ρ => ∃ (q : Qs) (s2 : Slot), ρ = [.shr (.py (esP es)), .own (qD a "TalliedQueue" q), s2] ∧ LvQ q ∧ q.kept = es.take j ∧ q.now = runSc Sc.nil (es.take j)) ⟨Qs.nil, _, rfl, LvQ.of (gs := []) (by simp) (by simp), by simp [Qs.nil], by simp [Qs.nil, Qs.now]⟩ ?_ ?_
  · rintro j e ρ he ⟨q, s2, rfl, lq, hk, hn⟩ nx ct kn
    obtain ⟨ho, hs⟩ := ok.at he
    rw [← hn] at hs
    have hj := (List.getElem?_eq_some_iff.mp he).1
    have hp := step_perf hs (show q.kept.length < 60 by rw [hk, List.length_take]; omega)
    have ht : es.take (j + 1) = es.take j ++ [e] := by rw [List.take_add_one, he]; rfl
    simp [-S_q_call, -qNs]
    refine ⟨a, _, _, ⟨rfl, rfl, rfl⟩, q, e, tq_in, rfl, rfl, rfl, lq.ok, lq.nb, hp, ?_⟩
    exact (kn _ ⟨q.put e, _, rfl, lq.put ho hp, by rw [ht, ← hk]; rfl, by rw [ht, run_snoc, Qs.now_put, hn]⟩).1
  · rintro ρ ⟨q, s2, rfl, lq, hk, hn⟩
    rw [List.take_length] at hk hn
    exact ⟨_, rfl, k a q lq hk hn⟩
theorem nm_run_len : ∀ (es : List EdV) (nm : List Int), (es.foldl nmStep nm).length ≤ nm.length + es.length
  | [], nm => by simp
  | e :: es, nm => by
    have := nm_run_len es (nmStep nm e)
    have h : (nmStep nm e).length ≤ nm.length + 1 := by
      cases e with
      | arr v => exact nm_len nm _
      | _ => exact Nat.le_succ _
    simp only [List.foldl_cons, List.length_cons]
    omega
@[simp] def S_law_with_others : SV := fun ds Q _ => ∃ (es : List EdV) (k : Nat), ds = [.py (esP es), .py (.int (k : Int))] ∧ k ≤ 2 ∧ (∀ e ∈ es, EdOk e) ∧ es.length ≤ 40 ∧ Q (.py (esP (oth k [] 0 es)))
theorem l_law_with_others : ∀ ds Q E, S_law_with_others ds Q E → t_law_with_others (envOf 5 ds) (fin Q E) := by
  rintro ds Q E ⟨es, k, rfl, hk, ho, hl, kq⟩
  simp [t_law_with_others, -forGo]
  refine for_enc' EdV.data (fun j ρ => ∃ (dd : List (PyData × PyData)) (s4 : Slot), ρ = [.shr (.py (esP es)), .shr (.py (.int (k : Int))), .own (.py (esP (oth k [] 0 (es.take j)))), .own (.py (.dict dd)), s4] ∧ DOk dd ((es.take j).foldl nmStep [])) ⟨[], _, rfl, DOk.nil⟩ ?_ ?_
  · rintro j e ρ he ⟨dd, s4, rfl, dk⟩ nx ct kn
    have hj := (List.getElem?_eq_some_iff.mp he).1
    have ht : es.take (j + 1) = es.take j ++ [e] := by rw [List.take_add_one, he]; rfl
    have hn1 : ∀ e' ds', othE k ((es.take j).foldl nmStep []) j e = e' → DOk ds' (nmStep ((es.take j).foldl nmStep []) e) → nx [.shr (.py (esP es)), .shr (.py (.int (k : Int))), .own (.py (.list ((oth k [] 0 (es.take j)).map EdV.data ++ [e'.data]))), .own (.py (.dict ds')), .shr (.py e'.data)] := fun e' ds' h1 h2 => by
      refine (kn [.shr (.py (esP es)), .shr (.py (.int (k : Int))), .own (.py (.list ((oth k [] 0 (es.take j)).map EdV.data ++ [e'.data]))), .own (.py (.dict ds')), .shr (.py e'.data)] ⟨ds', .shr (.py e'.data), ?_, ?_⟩).1
      · rw [ht, oth_snoc, Nat.zero_add, List.length_take, Nat.min_eq_left (by omega), h1]
        simp [esP]
      · rw [ht, List.foldl_append]; exact h2
    have d1 : (Str.ofString "serve" == Str.ofString "arrive") = false := by decide
    have d2 : (Str.ofString "go_away" == Str.ofString "arrive") = false := by decide
    have ol : (oth k [] 0 (es.take j)).length = j := by rw [oth_len, List.length_take]; omega
    cases e with
    | arr v =>
      obtain ⟨g, rfl, g0, g1⟩ := ho _ (List.mem_of_getElem? he)
      simp [EdV.data]
      have dput := dk.put g
      have nl := nm_run_len (es.take j) []
      simp only [List.length_nil, List.length_take] at nl
      have dl := dk.len
      refine ⟨_, rfl, .inl g, rfl, _, rfl, .inl g, rfl, by omega, _, rfl, .inl g, rfl, .int (nmF (nmAdd ((es.take j).foldl nmStep []) g) g), by rw [dput.at_ g, if_pos nm_new], .int (othG k ((es.take j).foldl nmStep []) j g), ?_, by omega, hn1 (.arr (.int (othG k ((es.take j).foldl nmStep []) j g))) _ rfl dput⟩
      rw [ol]
      match k, hk with
      | 0, _ => rfl
      | 1, _ => rfl
      | 2, _ => rfl
      | k + 3, h => omega
    | srv =>
      simp [EdV.data, d1, ol]
      exact ⟨by omega, hn1 .srv dd rfl dk⟩
    | away v =>
      simp [EdV.data, d2, ol]
      exact ⟨by omega, hn1 (.away v) dd rfl dk⟩
  · rintro ρ ⟨dd, s4, rfl, dk⟩
    rw [List.take_length]
    simp
    exact kq
end LawP
set_option Elab.async false
set_option linter.all false
namespace VL
open PySem PySem.Spec PyProof.Rows L2 HT
@[simp] theorem atI_one {α : Type} (x y : α) (xs : List α) : atI (x :: y :: xs) 1 = some y := by have := @atI_nat _ (x :: y :: xs) 1 _ rfl; exact this
@[simp] theorem atI_two {α : Type} (x y z : α) (xs : List α) : atI (x :: y :: z :: xs) 2 = some z := by have := @atI_nat _ (x :: y :: z :: xs) 2 _ rfl; exact this
@[simp] theorem atI_three {α : Type} (x y z u : α) (xs : List α) : atI (x :: y :: z :: u :: xs) 3 = some u := by have := @atI_nat _ (x :: y :: z :: u :: xs) 3 _ rfl; exact this
end VL
namespace LawP
open PySem VL
/-! ### lists of persons -/
theorem eqv_pN : ∀ a b : List Nat, PyData.eqvAll (a.map pN) (b.map pN) = decide (a = b)
  | [], [] => rfl
  | [], _ :: _ => rfl
  | _ :: _, [] => rfl
  | x :: a, y :: b => by
    rw [List.map_cons, List.map_cons, PyData.eqvAll, eqv_pN a b]
    have : (pN x).eqv (pN y) = decide (x = y) := by
      simp [pN]
      rw [Bool.eq_iff_iff]
      simp
      omega
    rw [this]
    by_cases h : x = y <;> simp [h]
/-! ### what a word leads to -/
end LawP
set_option Elab.async false
set_option linter.all false
set_option maxRecDepth 100000
set_option maxHeartbeats 4000000
namespace LawP
open PySem PySem.Spec PyProof.Rows L2 VL
theorem vObj_2 {a : Addr} {n : Str} {fs : FS} {r0 r1 : Slot} {r : VEnv} {Q : D → Prop} {E : Er → Prop} : vObj 2 (r0 :: r1 :: .own (.rob a n fs) :: r) Q E ↔ hallF fs ∧ Q (.rob a n fs) :=
  ⟨fun ⟨_, _, _, e, h⟩ => by rcases e with e | e <;> cases e; exact h, fun h => ⟨_, _, _, .inl rfl, h⟩⟩
theorem sortN_range (n : Nat) : sortI (((List.range n).map fun i : Nat => (i : Int))) = (List.range n).map fun i : Nat => (i : Int) := by
  refine (sortI_eq (List.Perm.refl _) ?_).symm
  rw [List.pairwise_map]
  exact (List.pairwise_lt_range).imp (fun h => by omega)
def t_PR (S_Queue_served : SV) (S_Queue_waiting : SV) (S_TalliedQueue_joined : SV) (S_TalliedQueue_jumps : SV) : VS :=
  (sSeq (sSet 7 (vBin gAdd (vMethQ qNs "served" (fun _ => svW .none S_Queue_served) (vObj 2) vNil) (vMethQ qNs "waiting" (fun _ => svW .none S_Queue_waiting) (vObj 2) vNil)))
  (sRet (vAnd (vBin gEq (vCal gList (vCons (vBor 7) vNil)) (vCal gSorted (vCons (vBor 7) vNil))) (vAnd (vBin gEq (vProp ["TalliedQueue"] S_TalliedQueue_jumps (vObj 2)) (vC (.py (.int 0)))) (vBin gEq (vProp ["TalliedQueue"] S_TalliedQueue_joined (vObj 2)) (vCal gTuple (vCons (vBor 3) vNil)))))))
theorem law_eqPR {S_law_performed : SV} {S_law_with_others : SV} {S_Queue_served : SV} {S_Queue_waiting : SV} {S_TalliedQueue_joined : SV} {S_TalliedQueue_jumps : SV} : t_law_plain_right S_law_performed S_law_with_others S_Queue_served S_Queue_waiting S_TalliedQueue_joined S_TalliedQueue_jumps =
  (sSeq (sPar [2, 3, 4] (mCons true (vCall S_law_performed (vCons (vCall S_law_with_others (vCons (vVar 0) (vCons (vVar 1) vNil))) vNil)) (mCons false (vLst vNil) (mCons false (vC (.py (.int 0))) mNil))))
  (sSeq (sSet 5 (vC (.py (.int 0))))
  (sSeq (sFor (iS (vVar 0)) (tgName 6)
  (sIf (vTst (vBin gEq (vBin gIx (vBor 6) (vC (.py (.int 0)))) (vC (.py (.str "arrive")))))
  (sSeq (sSet 3 (vBin gAdd (vBor 3) (vBin gMulA (vLst (vCons (vVar 5) vNil)) (vCal gInt (vCons (vAnd (vBin gGt (vBor 4) (vC (.py (.int 0)))) (vBin gEq (vBor 1) (vC (.py (.int 1))))) vNil)))))
  (sPar [5, 4] (mCons false (vBin gAdd (vBor 5) (vC (.py (.int 1)))) (mCons false (vBin gAdd (vBor 4) (vC (.py (.int 1)))) mNil))))
  (sSet 4 (vBin gSub (vBor 4) (vC (.py (.int 1)))))))
  (t_PR S_Queue_served S_Queue_waiting S_TalliedQueue_joined S_TalliedQueue_jumps)))) := rfl
theorem due_len (k : Nat) : ∀ (es : List EdV) (s : Sc), (dueL k s es).length ≤ es.length
  | [], s => by simp [dueL]
  | e :: es, s => by
    have := due_len k es (stepSc s e)
    have h : (dueE k s e).length ≤ 1 := by
      cases e with
      | arr v => simp only [dueE]; split <;> simp
      | _ => simp [dueE]
    simp only [dueL, List.length_append, List.length_cons]
    omega
theorem geqL {a : List Nat} {Q : D → Prop} (k : Q (.py (.bool true))) : gEq (.py (.list (a.map pN))) (.py (.list (a.map pN))) Q := by
  cases a with
  | nil => exact k
  | cons x a =>
    have e : (PyData.list ((x :: a).map pN)).eqv (.list ((x :: a).map pN)) = true := by
      show PyData.eqvAll ((x :: a).map pN) ((x :: a).map pN) = true
      rw [eqv_pN]; simp
    refine ⟨by simp only [plain_list]; exact plain_pN _, by simp only [plain_list]; exact plain_pN _, .inl (by simp only [depth_list]; rw [depth_pN]; omega), ?_⟩
    show Q (.py (.bool ((PyData.list ((x :: a).map pN)).eqv (.list ((x :: a).map pN)))))
    rw [e]
    exact k
theorem geqT {a : List Nat} {Q : D → Prop} (k : Q (.py (.bool true))) : gEq (.py (.tuple (a.map pN))) (.py (.tuple (a.map pN))) Q := by
  cases a with
  | nil => exact k
  | cons x a =>
    have e : (PyData.tuple ((x :: a).map pN)).eqv (.tuple ((x :: a).map pN)) = true := by
      show PyData.eqvAll ((x :: a).map pN) ((x :: a).map pN) = true
      rw [eqv_pN]; simp
    refine ⟨by simp only [plain_tuple]; exact plain_pN _, by simp only [plain_tuple]; exact plain_pN _, .inl (by simp only [depth_tuple]; rw [depth_pN]; omega), ?_⟩
    show Q (.py (.bool ((PyData.tuple ((x :: a).map pN)).eqv (.tuple ((x :: a).map pN)))))
    rw [e]
    exact k
theorem PR_ok {s0 s1 s4 s5 s6 s7 : Slot} {a : Addr} {q : Qs} {due : List Nat} {n : Nat} {De : VEnds} (lq : LvQ q) (h1 : q.now.passed = 0) (h2 : q.now.done ++ q.now.line = List.range n) (h3 : q.now.mated = due) (k : De.rt (.py (.bool true))) :
    t_PR S_Queue_served S_Queue_waiting S_TalliedQueue_joined S_TalliedQueue_jumps [s0, s1, .own (qD a "TalliedQueue" q), .shr (.py (.list (due.map pN))), s4, s5, s6, s7] De := by
  have o := lq.ok
  have ol := o.now.1
  have nl : q.now.done.length + q.now.line.length = n := by rw [← List.length_append, h2, List.length_range]
  simp [t_PR, -qNs, -List.lookup_eq_none_iff, -hallF, qF_hall, -hallO, hallO_sc, ↓rob_ex, two_ex, vObj_2, -vObj, tq_in, qF_served, qF_waiting, -S_Queue_served, -S_Queue_waiting, -S_TalliedQueue_joined, -S_TalliedQueue_jumps]
  refine now_served tq_in o ⟨trivial, now_waiting tq_in o ⟨trivial, ?_⟩⟩
  have e : q.now.done.map pN ++ q.now.line.map pN = (List.range n).map pN := by rw [← List.map_append, h2]
  refine ⟨by simp only [List.length_map]; have := ol.gl; have := ol.sum; omega, ?_⟩
  rw [e]
  refine ⟨_, allI_pN _, ?_⟩
  have e2 : (sortI ((List.range n).map fun i : Nat => (i : Int))).map PyData.int = (List.range n).map pN := by rw [sortN_range, List.map_map]; rfl
  rw [e2]
  refine geqL ?_
  show if true = true then _ else _
  rw [if_pos rfl]
  refine ⟨a, q, rfl, o, trivial, ?_⟩
  rw [h1]
  refine ⟨rfl, rfl, .inl (Nat.zero_le _), ?_⟩
  show if true = true then _ else _
  rw [if_pos rfl]
  refine ⟨a, q, rfl, o, trivial, ?_⟩
  rw [h3]
  exact geqT k
@[simp] def S_law_plain_right : SV := fun ds Q _ => ∃ (es : List EdV) (k : Nat), ds = [.py (esP es), .py (.int (k : Int))] ∧ (k = 1 ∨ k = 2) ∧ okRun Sc.nil es ∧ (∀ e ∈ es, stays e) ∧ es.length ≤ 40 ∧ Q (.py (.bool true))
theorem l_law_plain_right : ∀ ds Q E, S_law_plain_right ds Q E → t_law_plain_right S_law_performed S_law_with_others S_Queue_served S_Queue_waiting S_TalliedQueue_joined S_TalliedQueue_jumps (envOf 8 ds) (fin Q E) := by
  rintro ds Q E ⟨es, k, rfl, hk, ok, hst, hl, kq⟩
  obtain ⟨ok1, pr⟩ := PlR.run hk [] (by omega) (PlR.nil k) hst Lv.nil ok
  simp only [Nat.zero_add, List.nil_append] at pr
  have ol : (oth k [] 0 es).length = es.length := oth_len k es [] 0
  rw [law_eqPR]
  simp [-S_law_performed, -S_law_with_others, -S_Queue_served, -S_Queue_waiting, -S_TalliedQueue_joined, -S_TalliedQueue_jumps, -forGo, -qNs]
  refine ⟨es, k, rfl, by omega, fun e he => ?_, hl, _, rfl, ok1, by omega, fun a q lq hqk hqn => ?_⟩
  · obtain ⟨i, hi⟩ := List.getElem?_of_mem he
    exact (ok.at hi).1
  · refine for_enc' EdV.data (fun j ρ => ∃ s6, ρ = [.shr (.py (esP es)), .shr (.py (.int (k : Int))), .own (qD a "TalliedQueue" q), .shr (.py (.list ((dueL k Sc.nil (es.take j)).map pN))), .shr (.py (.int ((runSc Sc.nil (es.take j)).line.length : Int))), .shr (.py (.int ((runSc Sc.nil (es.take j)).g.length : Int))), s6, .un]) ⟨_, rfl⟩ ?_ ?_
    · rintro j e ρ he ⟨s6, rfl⟩ nx ct kn
      obtain ⟨ho, hs⟩ := ok.at he
      have hj := (List.getElem?_eq_some_iff.mp he).1
      have ht : es.take (j + 1) = es.take j ++ [e] := by rw [List.take_add_one, he]; rfl
      have sy := hst e (List.mem_of_getElem? he)
      have d1 : (Str.ofString "serve" == Str.ofString "arrive") = false := by decide
      generalize hS : runSc Sc.nil (es.take j) = S at hs
      generalize hD : dueL k Sc.nil (es.take j) = Du
      have key : ∀ Du' L' G' , Du' = Du ++ dueE k S e → L' = (stepSc S e).line.length → G' = (stepSc S e).g.length → nx [.shr (.py (esP es)), .shr (.py (.int (k : Int))), .own (qD a "TalliedQueue" q), .shr (.py (.list (Du'.map pN))), .shr (.py (.int ((L' : Nat) : Int))), .shr (.py (.int ((G' : Nat) : Int))), .shr (.py e.data), .un] := fun Du' L' G' h1 h2 h3 => by
        refine (kn _ ⟨.shr (.py e.data), ?_⟩).1
        rw [ht, run_snoc, due_snoc, hS, hD, h1, h2, h3]
      have ll : Du.length ≤ 1000 := by
        have := due_len k (es.take j) Sc.nil
        rw [hD, List.length_take] at this
        omega
      cases e with
      | arr v =>
        have el : (stepSc S (.arr v)).line.length = S.line.length + 1 := by
          have := S.plc_le (intOf v)
          simp only [stepSc, Sc.arr, List.length_append, List.length_cons, List.length_take, List.length_drop]
          omega
        have eg : (stepSc S (.arr v)).g.length = S.g.length + 1 := by simp [stepSc, Sc.arr]
        simp [EdV.data]
        by_cases c : 0 < S.line.length
        · rw [if_pos c]
          rcases hk with rfl | rfl
          · have := key (Du ++ [S.g.length]) (S.line.length + 1) (S.g.length + 1) (by simp [dueE, c]) el.symm eg.symm
            refine ⟨by decide, by simp; omega, ?_⟩
            simpa [EdV.data, show pN S.g.length = .int (S.g.length : Int) from rfl] using this
          · have := key Du (S.line.length + 1) (S.g.length + 1) (by simp [dueE]) el.symm eg.symm
            refine ⟨by decide, by simp; omega, ?_⟩
            simpa [EdV.data] using this
        · rw [if_neg c]
          have := key Du (S.line.length + 1) (S.g.length + 1) (by simp [dueE, c]) el.symm eg.symm
          refine ⟨by omega, ?_⟩
          simpa [EdV.data] using this
      | srv =>
        have ne := List.length_pos_iff.mpr (step_srv hs)
        simp [EdV.data, d1]
        have := key Du (S.line.length - 1) S.g.length (by simp [dueE]) (by simp [stepSc, Sc.srv]) rfl
        rw [show (S.line.length : Int) - 1 = ((S.line.length - 1 : Nat) : Int) by omega]
        exact this
      | away v => exact sy.elim
    · rintro ρ ⟨s6, rfl⟩
      rw [List.take_length]
      refine PR_ok (n := q.now.g.length) lq (by rw [hqn]; exact pr.pass) (by rw [hqn]; exact pr.ord) (by rw [hqn]; exact pr.mated) kq
end LawP
set_option Elab.async false
set_option linter.all false
set_option maxRecDepth 100000
set_option maxHeartbeats 4000000
namespace LawP
open PySem PySem.Spec PyProof.Rows L2 VL
def t_A70 (S_TalliedQueue_jumps : SV) (S_law_passes : SV) (S_Queue_served : SV) (S_Queue_waiting : SV) : VS :=
  (sIf (wAnd (vTst (vBor 3)) (vTst (vBin gNe (vProp ["TalliedQueue"] S_TalliedQueue_jumps (vObj 6)) (vCall S_law_passes (vCons (vBin gAdd (vMethQ qNs "served" (fun _ => svW .none S_Queue_served) (vObj 6) vNil) (vMethQ qNs "waiting" (fun _ => svW .none S_Queue_waiting) (vObj 6) vNil)) vNil)))))
(sRet (vC (.py (.bool false))))
sNext)
def t_B70 (S_TalliedQueue_jumps : SV) (S_TalliedQueue_joined : SV) : VS :=
  (sIf (vTst (vBin gNe (vLst (vCons (vProp ["TalliedQueue"] S_TalliedQueue_joined (vObj 6)) (vCons (vProp ["TalliedQueue"] S_TalliedQueue_jumps (vObj 6)) vNil))) (vLst (vCons (vBin gIx (vBor 5) (vC (.py (.int 4)))) (vCons (vBin gIx (vBor 5) (vC (.py (.int 5)))) vNil)))))
(sRet (vC (.py (.bool false))))
sNext)
def t_D70 (S_law_plain_right : SV) : VS :=
  (sIf (wAnd (vTst (vBor 3)) (wOr (wNot (vTst (vCall S_law_plain_right (vCons (vVar 4) (vCons (vC (.py (.int 1))) vNil))))) (wNot (vTst (vCall S_law_plain_right (vCons (vVar 4) (vCons (vC (.py (.int 2))) vNil)))))))
(sRet (vC (.py (.bool false))))
sNext)
def t_C70 (S_TalliedQueue_jumps : SV) (S_Queue_served : SV) (S_Queue_waiting : SV) (S_TalliedQueue_joined : SV) (S_Queue_gone : SV) (S_Queue_word : SV) (S_Queue_str : SV) (S_law_plain_right : SV) : VS :=
  (sSeq (sSet 8 (vLst (vCons (vMethQ qNs "waiting" (fun _ => svW .none S_Queue_waiting) (vObj 6) vNil) (vCons (vMethQ qNs "served" (fun _ => svW .none S_Queue_served) (vObj 6) vNil) (vCons (vMethQ qNs "gone" (fun _ => svW .none S_Queue_gone) (vObj 6) vNil) (vCons (vProp ["TalliedQueue"] S_TalliedQueue_joined (vObj 6)) (vCons (vProp ["TalliedQueue"] S_TalliedQueue_jumps (vObj 6)) (vCons (vMethQ qNs "word" (fun _ => S_Queue_word) (vObj 6) vNil) vNil))))))))
(sSeq (sSet 9 (vLst (vCons (vMethQ qNs "waiting" (fun _ => svW .none S_Queue_waiting) (vObj 7) vNil) (vCons (vMethQ qNs "served" (fun _ => svW .none S_Queue_served) (vObj 7) vNil) (vCons (vMethQ qNs "gone" (fun _ => svW .none S_Queue_gone) (vObj 7) vNil) (vCons (vProp ["TalliedQueue"] S_TalliedQueue_joined (vObj 7)) (vCons (vProp ["TalliedQueue"] S_TalliedQueue_jumps (vObj 7)) (vCons (vMethQ qNs "word" (fun _ => S_Queue_word) (vObj 7) vNil) vNil))))))))
(sSeq (sIf (wOr (vTst (vBin gNe (vBor 8) (vBor 9))) (vTst (vBin gNe (vStrQ qNs (fun _ => S_Queue_str) (vObj 6)) (vStrQ qNs (fun _ => S_Queue_str) (vObj 7)))))
(sRet (vC (.py (.bool false))))
sNext)
(t_D70 S_law_plain_right))))
theorem law_eq70 {S_law_planned : SV} {S_law_grab : SV} {S_law_performed : SV} {S_law_with_others : SV} {S_TalliedQueue_jumps : SV} {S_law_passes : SV} {S_Queue_served : SV} {S_Queue_waiting : SV} {S_TalliedQueue_joined : SV} {S_Queue_gone : SV} {S_Queue_word : SV} {S_Queue_str : SV} {S_law_plain_right : SV} : t_law S_law_planned S_law_grab S_law_performed S_law_with_others S_TalliedQueue_jumps S_law_passes S_Queue_served S_Queue_waiting S_TalliedQueue_joined S_Queue_gone S_Queue_word S_Queue_str S_law_plain_right =
  (sSeq (sFor (iR1 (vCons (vC (.py (.int 4))) vNil)) (tgName 2)
  (sSeq (sSet 3 (vBin gEq (vBin gMod (vBor 2) (vC (.py (.int 2)))) (vC (.py (.int 0)))))
  (sSeq (sAsg (vCall S_law_planned (vCons (vVar 1) (vCons (vCall S_law_grab (vCons (vVar 1) (vCons (vC (.py (.int 41))) vNil))) (vCons (vVar 3) vNil)))) (tgUnl 2 (tgCons (tgName 4) (tgCons (tgName 5) tgNil))))
  (sSeq (sPar [6, 7] (mCons true (vCall S_law_performed (vCons (vVar 4) vNil)) (mCons true (vCall S_law_performed (vCons (vCall S_law_with_others (vCons (vVar 4) (vCons (vC (.py (.int 0))) vNil))) vNil)) mNil)))
(sSeq (t_A70 S_TalliedQueue_jumps S_law_passes S_Queue_served S_Queue_waiting)
(sSeq (t_B70 S_TalliedQueue_jumps S_TalliedQueue_joined)
(t_C70 S_TalliedQueue_jumps S_Queue_served S_Queue_waiting S_TalliedQueue_joined S_Queue_gone S_Queue_word S_Queue_str S_law_plain_right)))))))
  (sRet (vC (.py (.bool true))))) := rfl
theorem vObj_6 {a : Addr} {n : Str} {fs : FS} {r0 r1 r2 r3 r4 r5 : Slot} {r : VEnv} {Q : D → Prop} {E : Er → Prop} : vObj 6 (r0 :: r1 :: r2 :: r3 :: r4 :: r5 :: .own (.rob a n fs) :: r) Q E ↔ hallF fs ∧ Q (.rob a n fs) :=
  ⟨fun ⟨_, _, _, e, h⟩ => by rcases e with e | e <;> cases e; exact h, fun h => ⟨_, _, _, .inl rfl, h⟩⟩
theorem vObj_7 {a : Addr} {n : Str} {fs : FS} {r0 r1 r2 r3 r4 r5 r6 : Slot} {r : VEnv} {Q : D → Prop} {E : Er → Prop} : vObj 7 (r0 :: r1 :: r2 :: r3 :: r4 :: r5 :: r6 :: .own (.rob a n fs) :: r) Q E ↔ hallF fs ∧ Q (.rob a n fs) :=
  ⟨fun ⟨_, _, _, e, h⟩ => by rcases e with e | e <;> cases e; exact h, fun h => ⟨_, _, _, .inl rfl, h⟩⟩
def nice (x : PyData) : Prop := x.plain = true ∧ x.depth ≤ 5 ∧ x.eqv x = true
theorem nice_N (a : List Nat) : nice (tN a) := by
  have e : (tN a).eqv (tN a) = true := by
    show PyData.eqvAll (a.map pN) (a.map pN) = true
    rw [eqv_pN]; simp
  exact ⟨by simp only [tN, plain_tuple]; exact plain_pN _, by simp only [tN, depth_tuple]; rw [depth_pN]; omega, e⟩
theorem nice_p (n : Nat) : nice (pN n) := ⟨rfl, Nat.zero_le _, by simp [pN, PyData.eqv]⟩
theorem nice_w (c : Prop) [Decidable c] (z : Str) : nice (if c then .str z else .none) := by
  split
  · exact ⟨rfl, Nat.zero_le _, by simp [PyData.eqv]⟩
  · exact ⟨rfl, Nat.zero_le _, rfl⟩
theorem nice_all : ∀ {xs : List PyData}, (∀ x ∈ xs, nice x) → PyData.plainAll xs = true ∧ PyData.depthAll xs ≤ 5 ∧ PyData.eqvAll xs xs = true
  | [], _ => ⟨rfl, by decide, rfl⟩
  | x :: xs, h => by
    obtain ⟨h1, h2, h3⟩ := nice_all (xs := xs) fun y hy => h y (List.mem_cons_of_mem _ hy)
    obtain ⟨g1, g2, g3⟩ := h x List.mem_cons_self
    refine ⟨?_, ?_, ?_⟩
    · simp [PyData.plainAll, h1, g1]
    · simp only [PyData.depthAll]; omega
    · simp [PyData.eqvAll, h3, g3]
theorem nice_list {xs : List PyData} (h : ∀ x ∈ xs, nice x) : (PyData.list xs).plain = true ∧ (PyData.list xs).depth ≤ 60 ∧ (PyData.list xs).eqv (.list xs) = true := by
  obtain ⟨h1, h2, h3⟩ := nice_all h
  refine ⟨?_, ?_, h3⟩
  · simp only [PyData.plain]; exact h1
  · show PyData.depthAll _ + 1 ≤ 60; omega
section
variable {s0 s1 s2 s4 s5 s6 s7 s8 s9 : Slot} {st : Bool} {a a' : Addr} {es : List EdV} {q q' : Qs} {De : VEnds}
theorem A_ok (lq : LvQ q) (h : st = true → q.now.passed = invN (q.now.done ++ q.now.line)) (k : De.nx [s0, s1, s2, .shr (.py (.bool st)), s4, s5, .own (qD a "TalliedQueue" q), s7, s8, s9]) :
    t_A70 S_TalliedQueue_jumps S_law_passes S_Queue_served S_Queue_waiting [s0, s1, s2, .shr (.py (.bool st)), s4, s5, .own (qD a "TalliedQueue" q), s7, s8, s9] De := by
  have o := lq.ok
  have ol := o.now.1
  have hl : q.now.done.length + q.now.line.length ≤ 40 := by have := ol.gl; have := ol.sum; omega
  simp [t_A70, -qNs, -List.lookup_eq_none_iff, -hallF, qF_hall, -hallO, hallO_sc, ↓rob_ex, two_ex, vObj_6, vObj_7, -vObj, tq_in, qF_served, qF_waiting, qF_gone, qF_word, -S_Queue_served, -S_Queue_waiting, -S_Queue_gone, -S_Queue_word, -S_TalliedQueue_joined, -S_TalliedQueue_jumps, -S_law_passes, -S_strT, -S_law_plain_right, -S_law_planned, -S_law_performed, -S_law_with_others]
  cases st with
  | false => simpa using k
  | true =>
    have hp := h rfl
    simp [-qNs, -List.lookup_eq_none_iff, -hallF, qF_hall, -hallO, hallO_sc, ↓rob_ex, two_ex, vObj_6, vObj_7, -vObj, tq_in, qF_served, qF_waiting, qF_gone, qF_word, -S_Queue_served, -S_Queue_waiting, -S_Queue_gone, -S_Queue_word, -S_TalliedQueue_joined, -S_TalliedQueue_jumps, -S_law_passes, -S_strT, -S_law_plain_right, -S_law_planned, -S_law_performed, -S_law_with_others]
    refine ⟨a, q, rfl, o, trivial, now_served tq_in o ⟨trivial, now_waiting tq_in o ⟨trivial, ?_⟩⟩⟩
    refine ⟨by simp only [List.length_map]; omega, q.now.done ++ q.now.line, by rw [← List.map_append]; rfl, by rw [List.length_append]; omega, ?_⟩
    rw [hp]
    refine ⟨rfl, rfl, .inl (Nat.zero_le _), ?_⟩
    have e := (nice_p (invN (q.now.done ++ q.now.line))).2.2
    rw [e]
    simpa using k
theorem B_ok (lq : LvQ q) (hq : q.now = runSc Sc.nil es) (k : De.nx [s0, s1, s2, s4, s5, .shr (.py (scP (runSc Sc.nil es))), .own (qD a "TalliedQueue" q), s7, s8, s9]) :
    t_B70 S_TalliedQueue_jumps S_TalliedQueue_joined [s0, s1, s2, s4, s5, .shr (.py (scP (runSc Sc.nil es))), .own (qD a "TalliedQueue" q), s7, s8, s9] De := by
  have o := lq.ok
  simp [t_B70, -qNs, -List.lookup_eq_none_iff, -hallF, qF_hall, -hallO, hallO_sc, ↓rob_ex, two_ex, vObj_6, vObj_7, -vObj, tq_in, qF_served, qF_waiting, qF_gone, qF_word, -S_Queue_served, -S_Queue_waiting, -S_Queue_gone, -S_Queue_word, -S_TalliedQueue_joined, -S_TalliedQueue_jumps, -S_law_passes, -S_strT, -S_law_plain_right, -S_law_planned, -S_law_performed, -S_law_with_others]
  refine ⟨a, q, rfl, o, trivial, a, q, rfl, o, trivial, by simp, ?_⟩
  refine ⟨_, rfl, _, rfl, by simp, ?_⟩
  rw [hq]
  obtain ⟨f1, f2, f3⟩ := nice_list (xs := [tN (runSc Sc.nil es).mated, pN (runSc Sc.nil es).passed]) (fun x hx => by
    simp only [List.mem_cons, List.not_mem_nil, or_false] at hx
    rcases hx with rfl | rfl
    · exact nice_N _
    · exact nice_p _)
  dsimp only
  refine ⟨f1, f1, .inl f2, ?_⟩
  rw [f3, if_neg (by decide)]
  exact k
theorem C_ok (lq : LvQ q) (lq' : LvQ q') (hk : q.kept.length = q'.kept.length) (hr : ∃ nm, q'.now = renS nm q.now) (k : ∀ s8 s9, t_D70 S_law_plain_right [s0, s1, s2, s4, s5, s6, .own (qD a "TalliedQueue" q), .own (qD a' "TalliedQueue" q'), s8, s9] De) :
    t_C70 S_TalliedQueue_jumps S_Queue_served S_Queue_waiting S_TalliedQueue_joined S_Queue_gone S_Queue_word S_strT S_law_plain_right [s0, s1, s2, s4, s5, s6, .own (qD a "TalliedQueue" q), .own (qD a' "TalliedQueue" q'), s8, s9] De := by
  have o := lq.ok
  have o' := lq'.ok
  obtain ⟨nm, hr⟩ := hr
  have hd : q'.now.done = q.now.done := by rw [hr]; rfl
  have hln : q'.now.line = q.now.line := by rw [hr]; rfl
  have hlf : q'.now.left = q.now.left := by rw [hr]; rfl
  have hmt : q'.now.mated = q.now.mated := by rw [hr]; rfl
  have hps : q'.now.passed = q.now.passed := by rw [hr]; rfl
  have hw : q'.now.w = q.now.w := by rw [hr]; rfl
  have hg : q'.now.g.length = q.now.g.length := by rw [hr]; simp [renS]
  have ht : toldT q' = toldT q := by unfold toldT toldS; rw [hg, hln, hk, hmt, hps]
  simp [t_C70, -qNs, -List.lookup_eq_none_iff, -hallF, qF_hall, -hallO, hallO_sc, ↓rob_ex, two_ex, vObj_6, vObj_7, -vObj, tq_in, qF_served, qF_waiting, qF_gone, qF_word, -S_Queue_served, -S_Queue_waiting, -S_Queue_gone, -S_Queue_word, -S_TalliedQueue_joined, -S_TalliedQueue_jumps, -S_law_passes, -S_strT, -S_law_plain_right, -S_law_planned, -S_law_performed, -S_law_with_others]
  refine now_waiting tq_in o ⟨trivial, now_served tq_in o ⟨trivial, now_gone tq_in o ⟨trivial, ?_⟩⟩⟩
  refine ⟨a, q, rfl, o, trivial, a, q, rfl, o, trivial, a, _, q, rfl, tq_in, o, trivial, by simp, ?_⟩
  refine now_waiting tq_in o' ⟨trivial, now_served tq_in o' ⟨trivial, now_gone tq_in o' ⟨trivial, ?_⟩⟩⟩
  refine ⟨a', q', rfl, o', trivial, a', q', rfl, o', trivial, a', _, q', rfl, tq_in, o', trivial, by simp, ?_⟩
  rw [hd, hln, hlf, hmt, hps, hw]
  obtain ⟨f1, f2, f3⟩ := nice_list (xs := [tN q.now.line, tN q.now.done, tN q.now.left, tN q.now.mated, pN q.now.passed, if q.now.left = [] then .str (mkS q.now.w) else .none]) (fun x hx => by
    simp only [List.mem_cons, List.not_mem_nil, or_false] at hx
    rcases hx with rfl | rfl | rfl | rfl | rfl | rfl
    · exact nice_N _
    · exact nice_N _
    · exact nice_N _
    · exact nice_N _
    · exact nice_p _
    · exact nice_w _ _)
  dsimp only
  refine ⟨f1, f1, .inl f2, ?_⟩
  rw [f3, if_neg (by decide)]
  refine ⟨a, q, rfl, o, ⟨_, rfl⟩, a', q', rfl, o', ⟨_, rfl⟩, ?_⟩
  rw [ht]
  have e : (PyData.str (toldT q)).eqv (.str (toldT q)) = true := by simp [PyData.eqv]
  refine ⟨rfl, rfl, .inl (Nat.zero_le _), ?_⟩
  rw [e]
  exact k _ _
theorem D_ok (ok : okRun Sc.nil es) (hst : st = true → ∀ e ∈ es, stays e) (hl : es.length ≤ 40) (k : De.nx [s0, s1, s2, .shr (.py (.bool st)), .shr (.py (esP es)), s5, s6, s7, s8, s9]) :
    t_D70 S_law_plain_right [s0, s1, s2, .shr (.py (.bool st)), .shr (.py (esP es)), s5, s6, s7, s8, s9] De := by
  simp [t_D70, -S_law_plain_right]
  cases st with
  | false => simpa using k
  | true =>
    have h := hst rfl
    simp [-S_law_plain_right]
    refine ⟨es, 1, rfl, .inl rfl, ok, h, hl, ?_⟩
    show if true = true then _ else _
    rw [if_pos rfl]
    refine ⟨es, 2, rfl, .inr rfl, ok, h, hl, ?_⟩
    show if true = true then _ else _
    rw [if_pos rfl]
    exact k
end
theorem l_law (r : Addr) : t_law (S_law_planned r) (svTake r) S_law_performed S_law_with_others S_TalliedQueue_jumps S_law_passes S_Queue_served S_Queue_waiting S_TalliedQueue_joined S_Queue_gone S_Queue_word S_strT S_law_plain_right (envBag 10 1 r) (fin isTrue' noE) := by
  rw [law_eq70]
  simp [envBag, -qNs, -List.lookup_eq_none_iff, -hallF, qF_hall, -hallO, hallO_sc, ↓rob_ex, two_ex, vObj_6, vObj_7, -vObj, tq_in, qF_served, qF_waiting, qF_gone, qF_word, -S_Queue_served, -S_Queue_waiting, -S_Queue_gone, -S_Queue_word, -S_TalliedQueue_joined, -S_TalliedQueue_jumps, -S_law_passes, -S_strT, -S_law_plain_right, -S_law_planned, -S_law_performed, -S_law_with_others, -forGo]
  refine ⟨by decide, for_inv (fun i ρ => ∃ s2 s3 s4 s5 s6 s7 s8 s9, ρ = [.un, .shr (.raw (.ref r)), s2, s3, s4, s5, s6, s7, s8, s9]) ?_ (fun ρ _ => trivial) ⟨_, _, _, _, _, _, _, _, rfl⟩⟩
  rintro i x ρ hx ⟨s2, s3, s4, s5, s6, s7, s8, s9, rfl⟩ nx ct kn
  obtain ⟨hi, rfl⟩ := rangeP_get hx
  simp [-qNs, -List.lookup_eq_none_iff, -hallF, qF_hall, -hallO, hallO_sc, ↓rob_ex, two_ex, vObj_6, vObj_7, -vObj, tq_in, qF_served, qF_waiting, qF_gone, qF_word, -S_Queue_served, -S_Queue_waiting, -S_Queue_gone, -S_Queue_word, -S_TalliedQueue_joined, -S_TalliedQueue_jumps, -S_law_passes, -S_strT, -S_law_plain_right, -S_law_planned, -S_law_performed, -S_law_with_others, -forGo, setE]
  intro z z0 z1
  obtain ⟨m, rfl⟩ : ∃ m : Nat, z = (m : Int) := ⟨z.toNat, by omega⟩
  refine ⟨m, _, rfl, by omega, fun es ok hl hst => ?_⟩
  refine ⟨rfl, by simp, by simp, ?_⟩
  obtain ⟨ok', hr⟩ := ren_run (es := es) (nm := []) (s := Sc.nil) 0 (by simp [Sc.nil]) (by simp) Lv.nil ok
  have e0 : renS [] Sc.nil = Sc.nil := rfl
  rw [e0] at ok' hr
  refine ⟨by simp, _, rfl, es, rfl, ok, hl, fun a q lq hk hn => ?_⟩
  refine ⟨_, rfl, es, 0, rfl, by omega, fun e he => ?_, hl, oth 0 [] 0 es, rfl, ok', by rw [oth_len]; exact hl, fun a' q' lq' hk' hn' => ?_⟩
  · obtain ⟨j, hj⟩ := List.getElem?_of_mem he
    exact (ok.at hj).1
  · refine A_ok lq (fun h => ?_) ?_
    · rw [hn]; exact (StS.nil.run (hst h) ok).pass
    · refine B_ok lq hn ?_
      refine C_ok lq lq' (by rw [hk, hk', oth_len]) ⟨_, by rw [hn', hr, hn]⟩ fun s8' s9' => ?_
      refine D_ok ok hst hl ?_
      exact (kn _ ⟨_, _, _, _, _, _, _, _, rfl⟩).1
end LawP
set_option Elab.async false
set_option linter.all false
set_option maxRecDepth 100000
set_option maxHeartbeats 4000000
namespace LawP
open PySem PySem.Spec PyProof.Rows L2 VL
abbrev topS (i : Nat) : Stmt := PySem.Challenge.pw_matesline_k70_whole_jumps_and_other_grou.main.body.getD i (.Pass ⟨0, 0, 0, 0⟩)
section
variable {P : Program} {w : World} {K : PySem.W.Frag} {mg : Str → Option Value} {base : Heap} {b : Bg} {f : Addr} {fd : FuncData}
abbrev s_TooLarge : Stmt := clsDef (topS 8) 0
theorem sc_TooLarge : FnScope ["self", "limit"] ["self", "limit"] (defScope s_TooLarge) := ⟨rfl, rfl, rfl, by decide +kernel, rfl, by decide +kernel, by decide +kernel⟩
theorem wi_TooLarge {fa : Addr} (F : Fun K "__init__" "TooLarge.__init__" s_TooLarge fa fd) : FnOk P w K mg base (L2.CX P w) 1 fa fd ["self", "limit"] (spInit K "limit") := ok_init F sc_TooLarge rfl rfl rfl (by decide) (by decide)
abbrev s_NoGroup : Stmt := clsDef (topS 7) 0
theorem sc_NoGroup : FnScope ["self", "value"] ["self", "value"] (defScope s_NoGroup) := ⟨rfl, rfl, rfl, by decide +kernel, rfl, by decide +kernel, by decide +kernel⟩
theorem wi_NoGroup {fa : Addr} (F : Fun K "__init__" "NoGroup.__init__" s_NoGroup fa fd) : FnOk P w K mg base (L2.CX P w) 1 fa fd ["self", "value"] (spInit K "value") := ok_init F sc_NoGroup rfl rfl rfl (by decide) (by decide)
abbrev s_NoPerson : Stmt := clsDef (topS 5) 0
theorem sc_NoPerson : FnScope ["self", "value"] ["self", "value"] (defScope s_NoPerson) := ⟨rfl, rfl, rfl, by decide +kernel, rfl, by decide +kernel, by decide +kernel⟩
theorem wi_NoPerson {fa : Addr} (F : Fun K "__init__" "NoPerson.__init__" s_NoPerson fa fd) : FnOk P w K mg base (L2.CX P w) 1 fa fd ["self", "value"] (spInit K "value") := ok_init F sc_NoPerson rfl rfl rfl (by decide) (by decide)
abbrev s_Absent : Stmt := clsDef (topS 13) 0
theorem sc_Absent : FnScope ["self", "person"] ["self", "person"] (defScope s_Absent) := ⟨rfl, rfl, rfl, by decide +kernel, rfl, by decide +kernel, by decide +kernel⟩
theorem wi_Absent {fa : Addr} (F : Fun K "__init__" "Absent.__init__" s_Absent fa fd) : FnOk P w K mg base (L2.CX P w) 1 fa fd ["self", "person"] (spInit K "person") := ok_init F sc_Absent rfl rfl rfl (by decide) (by decide)
abbrev s_NoVersion : Stmt := clsDef (topS 11) 0
theorem sc_NoVersion : FnScope ["self", "version"] ["self", "version"] (defScope s_NoVersion) := ⟨rfl, rfl, rfl, by decide +kernel, rfl, by decide +kernel, by decide +kernel⟩
theorem wi_NoVersion {fa : Addr} (F : Fun K "__init__" "NoVersion.__init__" s_NoVersion fa fd) : FnOk P w K mg base (L2.CX P w) 1 fa fd ["self", "version"] (spInit K "version") := ok_init F sc_NoVersion rfl rfl rfl (by decide) (by decide)
abbrev s_NoIndex : Stmt := clsDef (topS 6) 0
theorem sc_NoIndex : FnScope ["self", "index"] ["self", "index"] (defScope s_NoIndex) := ⟨rfl, rfl, rfl, by decide +kernel, rfl, by decide +kernel, by decide +kernel⟩
theorem wi_NoIndex {fa : Addr} (F : Fun K "__init__" "NoIndex.__init__" s_NoIndex fa fd) : FnOk P w K mg base (L2.CX P w) 1 fa fd ["self", "index"] (spInit K "index") := ok_init F sc_NoIndex rfl rfl rfl (by decide) (by decide)
abbrev s_q_arrived : Stmt := topS 27
abbrev N_q_arrived : List Str := ["_law_now", "_law_kin", "_law_groups_here", "_law_line", "_law_done", "_law_left", "_law_mated", "_law_passed", "_law_letters", "_law_place", "_law_k"]
theorem sc_q_arrived : FnScope N_q_arrived ["_law_now", "_law_kin"] (defScope s_q_arrived) := ⟨rfl, rfl, rfl, by decide +kernel, rfl, by decide +kernel, by decide +kernel⟩
theorem w_q_arrived {S : SV} (F : Fun K "_law_arrived" "_law_arrived" s_q_arrived f fd) (n_max : mg "max" = none) (n_range : mg "range" = none) (n_len : mg "len" = none) (hlen : ∀ ds Q E, S ds Q E → ds.length = 2)
    (law : ∀ ds Q E, S ds Q E → t_q_arrived (envOf 11 ds) (fin Q E)) : FnOk P w K mg base (L2.CX P w) 1 f fd ["_law_now", "_law_kin"] (spV b S) := by
  refine fnV F sc_q_arrived hlen (by decide) (fun cdv A outer s H E hr tk => ?_) law
  have hu := hr.units
  exact (vs_cons (vs_asgT (ve_var (pv 0)) (vg_tup rfl (vgs_cons (vg_name (i := 2) sc_q_arrived.nd rfl (.inr rfl)) (vgs_cons (vg_name (i := 3) sc_q_arrived.nd rfl (.inr rfl)) (vgs_cons (vg_name (i := 4) sc_q_arrived.nd rfl (.inl rfl)) (vgs_cons (vg_name (i := 5) sc_q_arrived.nd rfl (.inl rfl)) (vgs_cons (vg_name (i := 6) sc_q_arrived.nd rfl (.inl rfl)) (vgs_cons (vg_name (i := 7) sc_q_arrived.nd rfl (.inl rfl)) (vgs_cons (vg_name (i := 8) sc_q_arrived.nd rfl (.inl rfl)) vgs_nil)))))))))
      (vs_cons (vs_asg (i := 9) sc_q_arrived.nd rfl (.inl rfl) (ve_max rfl (by rfl) n_max (vxs_cons (VE.toX (ve_add (VN.toX (vn_lst (va_cons ve_int va_nil))) (VN.toX (vn_lc (own := [("_law_k", 10)]) rfl sc_q_arrived.nd (vib_range1 (by rfl) n_range (vxs_cons (VE.toX (ve_len (by rfl) n_len (vxs_cons (vx_var (pv 3)) vxs_nil))) vxs_nil)) (blkOk_by (N := N_q_arrived) (sc := defScope s_q_arrived) (by decide +kernel)) (by decide) (fun _ _ _ _ _ => (vg_name (i := 10) sc_q_arrived.nd rfl (.inl rfl))) (fun _ _ _ _ _ => (vts_one (vt_eq hu (VE.toX (ve_ix (vx_var (pv 2)) (VE.toX (ve_ix (vx_var (pv 3)) (vx_var (pv 10)))))) (vx_var (pv 1))))) (fun _ _ _ _ _ => (ve_add (vx_var (pv 10)) (VE.toX ve_int))))))) vxs_nil)))
      (vs_cons (vs_if (vt_gt (vx_var (pv 9)) (VE.toX ve_int))
      (vs_cons (vs_asg (i := 6) sc_q_arrived.nd rfl (.inl rfl) (ve_add (vx_var (pv 6)) (VE.toX (ve_tup (va_cons (ve_len (by rfl) n_len (vxs_cons (vx_var (pv 2)) vxs_nil)) va_nil)))))
      (vs_one (vs_asg (i := 7) sc_q_arrived.nd rfl (.inl rfl) (ve_sub (VE.toX (ve_add (vx_var (pv 7)) (VE.toX (ve_len (by rfl) n_len (vxs_cons (vx_var (pv 3)) vxs_nil))))) (vx_var (pv 9))))))
      (vs_one (vs_asg (i := 9) sc_q_arrived.nd rfl (.inl rfl) (ve_len (by rfl) n_len (vxs_cons (vx_var (pv 3)) vxs_nil)))))
      (vs_cons (vs_asg (i := 3) sc_q_arrived.nd rfl (.inr rfl) (ve_add (VE.toX (ve_add (VE.toX (ve_sl (vx_var (pv 3)) vo_no (vo_at (vx_var (pv 9))))) (VE.toX (ve_tup (va_cons (ve_len (by rfl) n_len (vxs_cons (vx_var (pv 2)) vxs_nil)) va_nil))))) (VE.toX (ve_sl (vx_var (pv 3)) (vo_at (vx_var (pv 9))) vo_no))))
      (vs_one (vs_ret (ve_tup (va_cons (ve_add (vx_var (pv 2)) (VE.toX (ve_tup (va_cons (ve_var (pv 1)) va_nil)))) (va_cons (ve_var (pv 3)) (va_cons (ve_var (pv 4)) (va_cons (ve_var (pv 5)) (va_cons (ve_var (pv 6)) (va_cons (ve_var (pv 7)) (va_cons (ve_add (vx_var (pv 8)) (VE.toX ve_str)) va_nil))))))))))))))
abbrev s_q_first : Stmt := topS 29
abbrev N_q_first : List Str := ["_law_groups_here", "_law_now", "_law_kin"]
theorem sc_q_first : FnScope N_q_first ["_law_groups_here"] (defScope s_q_first) := ⟨rfl, rfl, rfl, by decide +kernel, rfl, by decide +kernel, by decide +kernel⟩
theorem w_q_first {S : SV} {S_q_arrived : SV} (F : Fun K "_law_first" "_law_first" s_q_first f fd) (F_q_arrived : Cal P w K mg base b 1 "_law_arrived" ["_law_now", "_law_kin"] S_q_arrived) (hlen : ∀ ds Q E, S ds Q E → ds.length = 1)
    (law : ∀ ds Q E, S ds Q E → t_q_first S_q_arrived (envOf 3 ds) (fin Q E)) : FnOk P w K mg base (L2.CX P w) 2 f fd ["_law_groups_here"] (spV b S) := by
  refine fnV F sc_q_first hlen (by decide) (fun cdv A outer s H E hr tk => ?_) law
  exact (vs_cons (vs_asg (i := 1) sc_q_first.nd rfl (.inl rfl) (ve_tup (va_cons (ve_tup va_nil) (va_cons (ve_tup va_nil) (va_cons (ve_tup va_nil) (va_cons (ve_tup va_nil) (va_cons (ve_tup va_nil) (va_cons ve_int (va_cons ve_str va_nil)))))))))
      (vs_cons (vs_for (passes_of rfl) rfl (vi_src (ve_var (pv 0))) (vg_name (i := 2) sc_q_first.nd rfl (.inl rfl))
      (vs_one (vs_asg (i := 1) sc_q_first.nd rfl (.inl rfl) (ve_cal F_q_arrived hr tk (by rfl) (va_cons (ve_var (pv 1)) (va_cons (ve_var (pv 2)) va_nil))))))
      (vs_one (vs_ret (ve_var (pv 1))))))
abbrev s_q_edit : Stmt := topS 31
abbrev N_q_edit : List Str := ["_law_sack_here", "_law_now", "_law_groups_here", "_law_line", "_law_way", "_law_kin"]
theorem sc_q_edit : FnScope N_q_edit ["_law_sack_here", "_law_now"] (defScope s_q_edit) := ⟨rfl, rfl, rfl, by decide +kernel, rfl, by decide +kernel, by decide +kernel⟩
theorem w_q_edit {S : SV} {S_law_grab : SV} (F : Fun K "_law_edit" "_law_edit" s_q_edit f fd) (F_law_grab : Cal P w K mg base b 1 "_law_grab" ["_law_sack_here", "_law_many"] S_law_grab) (n_len : mg "len" = none) (hlen : ∀ ds Q E, S ds Q E → ds.length = 2)
    (law : ∀ ds Q E, S ds Q E → t_q_edit S_law_grab (envOf 6 ds) (fin Q E)) : FnOk P w K mg base (L2.CX P w) 2 f fd ["_law_sack_here", "_law_now"] (spV b S) := by
  refine fnV F sc_q_edit hlen (by decide) (fun cdv A outer s H E hr tk => ?_) law
  have hu := hr.units
  exact (vs_cons (vs_par2 (i := 2) (j := 3) rfl sc_q_edit.nd rfl rfl (by decide) rfl rfl (vm_sh (ve_ix (vx_var (pv 1)) (VE.toX ve_int)) (vm_sh (ve_ix (vx_var (pv 1)) (VE.toX ve_int)) vm_nil)) (by rfl))
      (vs_cons (vs_asg (i := 4) sc_q_edit.nd rfl (.inl rfl) (ve_cal F_law_grab hr tk (by rfl) (va_cons (ve_var (pv 0)) (va_cons ve_int va_nil))))
      (vs_cons (vs_if (VWe.pt (vw_or (VWe.pt (vw_and (vt_lt (vx_var (pv 4)) (VE.toX ve_int)) (vw_and1 (vt_lt (VE.toX (ve_len (by rfl) n_len (vxs_cons (vx_var (pv 2)) vxs_nil))) (VE.toX ve_int))))) (vw_or1 (vt_eq hu (vx_var (pv 3)) (VE.toX (ve_tup va_nil))))))
      (vs_cons (vs_asg (i := 5) sc_q_edit.nd rfl (.inl rfl) (ve_ix (VN.toX (vn_lst (va_cons ve_int (va_cons ve_int (va_cons ve_int (va_cons (ve_pow (VE.toX ve_int) (VE.toX ve_int)) (va_cons ve_int va_nil))))))) (VE.toX (ve_cal F_law_grab hr tk (by rfl) (va_cons (ve_var (pv 0)) (va_cons ve_int va_nil))))))
      (vs_cons (vs_if (VWe.pt (vw_and (vt_ne hu (vx_var (pv 2)) (VE.toX (ve_tup va_nil))) (vw_and1 (vt_eq hu (VE.toX (ve_cal F_law_grab hr tk (by rfl) (va_cons (ve_var (pv 0)) (va_cons ve_int va_nil)))) (VE.toX ve_int)))))
      (vs_one (vs_asg (i := 5) sc_q_edit.nd rfl (.inl rfl) (ve_ix (vx_var (pv 2)) (VE.toX (ve_cal F_law_grab hr tk (by rfl) (va_cons (ve_var (pv 0)) (va_cons (ve_len (by rfl) n_len (vxs_cons (vx_var (pv 2)) vxs_nil)) va_nil)))))))
      vs_nil)
      (vs_one (vs_ret (ve_tup (va_cons ve_str (va_cons (ve_var (pv 5)) va_nil)))))))
      vs_nil)
      (vs_cons (vs_if (vt_eq hu (vx_var (pv 4)) (VE.toX ve_int))
      (vs_one (vs_ret (ve_tup (va_cons ve_str (va_cons (ve_ix (vx_var (pv 3)) (VE.toX (ve_cal F_law_grab hr tk (by rfl) (va_cons (ve_var (pv 0)) (va_cons (ve_len (by rfl) n_len (vxs_cons (vx_var (pv 3)) vxs_nil)) va_nil))))) va_nil)))))
      vs_nil)
      (vs_one (vs_ret (ve_tup (va_cons ve_str va_nil))))))))
abbrev s_q_whole : Stmt := topS 26
abbrev N_q_whole : List Str := ["_law_value", "_law_low", "_law_high"]
theorem sc_q_whole : FnScope N_q_whole ["_law_value", "_law_low", "_law_high"] (defScope s_q_whole) := ⟨rfl, rfl, rfl, by decide +kernel, rfl, by decide +kernel, by decide +kernel⟩
theorem w_q_whole {S : SV} (F : Fun K "_law_whole" "_law_whole" s_q_whole f fd) (n_isinstance : mg "isinstance" = none) (n_bool : mg "bool" = none) (n_int : mg "int" = none) (hlen : ∀ ds Q E, S ds Q E → ds.length = 3)
    (law : ∀ ds Q E, S ds Q E → t_q_whole (envOf 3 ds) (fin Q E)) : FnOk P w K mg base (L2.CX P w) 1 f fd ["_law_value", "_law_low", "_law_high"] (spV b S) := by
  refine fnV F sc_q_whole hlen (by decide) (fun cdv A outer s H E hr tk => ?_) law
  exact (vs_one (vs_ret (ve_and (VE.toX (ve_isi (by rfl) n_isinstance (vxs_cons (vx_var (pv 0)) (vxs_cons (VE.toX (ve_tyInt (by rfl) n_int)) vxs_nil)))) (ve_and (VE.toX (ve_not (VE.toX (ve_isi (by rfl) n_isinstance (vxs_cons (vx_var (pv 0)) (vxs_cons (VE.toX (ve_tyBool (by rfl) n_bool)) vxs_nil)))))) (ve_one (ve_le2 (vx_var (pv 1)) (vx_var (pv 0)) (vx_var (pv 2))))))))
abbrev s_q_after : Stmt := topS 28
abbrev N_q_after : List Str := ["_law_now", "_law_edit_here", "_law_groups_here", "_law_line", "_law_done", "_law_left", "_law_mated", "_law_passed", "_law_letters", "_law_rest", "_law_one"]
theorem sc_q_after : FnScope N_q_after ["_law_now", "_law_edit_here"] (defScope s_q_after) := ⟨rfl, rfl, rfl, by decide +kernel, rfl, by decide +kernel, by decide +kernel⟩
theorem w_q_after {S : SV} {S_q_whole : SV} {S_q_arrived : SV} (F : Fun K "_law_after" "_law_after" s_q_after f fd) (F_q_whole : Cal P w K mg base b 1 "_law_whole" ["_law_value", "_law_low", "_law_high"] S_q_whole) (F_q_arrived : Cal P w K mg base b 1 "_law_arrived" ["_law_now", "_law_kin"] S_q_arrived) (n_len : mg "len" = none) (n_tuple : mg "tuple" = none) (hlen : ∀ ds Q E, S ds Q E → ds.length = 2)
    (law : ∀ ds Q E, S ds Q E → t_q_after S_q_whole S_q_arrived (envOf 11 ds) (fin Q E)) : FnOk P w K mg base (L2.CX P w) 2 f fd ["_law_now", "_law_edit_here"] (spV b S) := by
  refine fnV F sc_q_after hlen (by decide) (fun cdv A outer s H E hr tk => ?_) law
  have hu := hr.units
  exact (vs_cons (vs_asgT (ve_var (pv 0)) (vg_tup rfl (vgs_cons (vg_name (i := 2) sc_q_after.nd rfl (.inl rfl)) (vgs_cons (vg_name (i := 3) sc_q_after.nd rfl (.inl rfl)) (vgs_cons (vg_name (i := 4) sc_q_after.nd rfl (.inl rfl)) (vgs_cons (vg_name (i := 5) sc_q_after.nd rfl (.inl rfl)) (vgs_cons (vg_name (i := 6) sc_q_after.nd rfl (.inl rfl)) (vgs_cons (vg_name (i := 7) sc_q_after.nd rfl (.inl rfl)) (vgs_cons (vg_name (i := 8) sc_q_after.nd rfl (.inl rfl)) vgs_nil)))))))))
      (vs_cons (vs_if (vt_eq hu (VE.toX (ve_ix (vx_var (pv 1)) (VE.toX ve_int))) (VE.toX ve_str))
      (vs_cons (vs_if (vt_not (vt_val (VE.toX (ve_cal F_q_whole hr tk (by rfl) (va_cons (ve_ix (vx_var (pv 1)) (VE.toX ve_int)) (va_cons ve_int (va_cons (ve_pow (VE.toX ve_int) (VE.toX ve_int)) va_nil)))))))
      (vs_one (vs_ret (VN.toE (vn_lst (va_cons (VN.toE (vn_lst (va_cons ve_str (va_cons (ve_ix (vx_var (pv 1)) (VE.toX ve_int)) va_nil)))) (va_cons (ve_var (pv 0)) va_nil))))))
      vs_nil)
      (vs_one (vs_ret (ve_if (vt_eq hu (VE.toX (ve_len (by rfl) n_len (vxs_cons (vx_var (pv 2)) vxs_nil))) (VE.toX ve_int)) (VN.toE (vn_lst (va_cons (VN.toE (vn_lst (va_cons ve_str (va_cons ve_int va_nil)))) (va_cons (ve_var (pv 0)) va_nil)))) (VN.toE (vn_lst (va_cons ve_non (va_cons (ve_cal F_q_arrived hr tk (by rfl) (va_cons (ve_var (pv 0)) (va_cons (ve_ix (vx_var (pv 1)) (VE.toX ve_int)) va_nil))) va_nil))))))))
      vs_nil)
      (vs_cons (vs_if (vt_eq hu (VE.toX (ve_ix (vx_var (pv 1)) (VE.toX ve_int))) (VE.toX ve_str))
      (vs_cons (vs_if (vt_eq hu (vx_var (pv 3)) (VE.toX (ve_tup va_nil)))
      (vs_one (vs_ret (VN.toE (vn_lst (va_cons (VN.toE (vn_lst (va_cons ve_str va_nil))) (va_cons (ve_var (pv 0)) va_nil))))))
      vs_nil)
      (vs_one (vs_ret (VN.toE (vn_lst (va_cons ve_non (va_cons (ve_tup (va_cons (ve_var (pv 2)) (va_cons (ve_sl (vx_var (pv 3)) (vo_at (VE.toX ve_int)) vo_no) (va_cons (ve_add (vx_var (pv 4)) (VE.toX (ve_sl (vx_var (pv 3)) vo_no (vo_at (VE.toX ve_int))))) (va_cons (ve_var (pv 5)) (va_cons (ve_var (pv 6)) (va_cons (ve_var (pv 7)) (va_cons (ve_add (vx_var (pv 8)) (VE.toX ve_str)) va_nil)))))))) va_nil)))))))
      vs_nil)
      (vs_cons (vs_if (vt_not (vt_val (VE.toX (ve_cal F_q_whole hr tk (by rfl) (va_cons (ve_ix (vx_var (pv 1)) (VE.toX ve_int)) (va_cons ve_int (va_cons (ve_sub (VE.toX (ve_len (by rfl) n_len (vxs_cons (vx_var (pv 2)) vxs_nil))) (VE.toX ve_int)) va_nil)))))))
      (vs_one (vs_ret (VN.toE (vn_lst (va_cons (VN.toE (vn_lst (va_cons ve_str (va_cons (ve_ix (vx_var (pv 1)) (VE.toX ve_int)) va_nil)))) (va_cons (ve_var (pv 0)) va_nil))))))
      vs_nil)
      (vs_cons (vs_if (vt_notIn hu (VE.toX (ve_ix (vx_var (pv 1)) (VE.toX ve_int))) (vx_var (pv 3)))
      (vs_one (vs_ret (VN.toE (vn_lst (va_cons (VN.toE (vn_lst (va_cons ve_str (va_cons (ve_ix (vx_var (pv 1)) (VE.toX ve_int)) va_nil)))) (va_cons (ve_var (pv 0)) va_nil))))))
      vs_nil)
      (vs_cons (vs_asg (i := 9) sc_q_after.nd rfl (.inl rfl) (ve_tupleC (by rfl) n_tuple (vxs_cons (VN.toX (vn_lc (own := [("_law_one", 10)]) rfl sc_q_after.nd (vib_src (vx_var (pv 3))) (blkOk_by (N := N_q_after) (sc := defScope s_q_after) (by decide +kernel)) (by decide) (fun _ _ _ _ _ => (vg_name (i := 10) sc_q_after.nd rfl (.inl rfl))) (fun _ _ _ _ _ => (vts_one (vt_ne hu (vx_var (pv 10)) (VE.toX (ve_ix (vx_var (pv 1)) (VE.toX ve_int)))))) (fun _ _ _ _ _ => (ve_var (pv 10))))) vxs_nil)))
      (vs_one (vs_ret (VN.toE (vn_lst (va_cons ve_non (va_cons (ve_tup (va_cons (ve_var (pv 2)) (va_cons (ve_var (pv 9)) (va_cons (ve_var (pv 4)) (va_cons (ve_add (vx_var (pv 5)) (VE.toX (ve_tup (va_cons (ve_ix (vx_var (pv 1)) (VE.toX ve_int)) va_nil)))) (va_cons (ve_var (pv 6)) (va_cons (ve_var (pv 7)) (va_cons (ve_var (pv 8)) va_nil)))))))) va_nil))))))))))))
abbrev s_law_planned : Stmt := topS 32
abbrev N_law_planned : List Str := ["_law_sack_here", "_law_count", "_law_is_staying", "_law_edits", "_law_now", "_law_turn", "_law_edit_here"]
theorem sc_law_planned : FnScope N_law_planned ["_law_sack_here", "_law_count", "_law_is_staying"] (defScope s_law_planned) := ⟨rfl, rfl, rfl, by decide +kernel, rfl, by decide +kernel, by decide +kernel⟩
theorem w_law_planned {S : SV} {S_q_first : SV} {S_q_edit : SV} {S_q_after : SV} (F : Fun K "_law_planned" "_law_planned" s_law_planned f fd) (F_q_first : Cal P w K mg base b 2 "_law_first" ["_law_groups_here"] S_q_first) (F_q_edit : Cal P w K mg base b 2 "_law_edit" ["_law_sack_here", "_law_now"] S_q_edit) (F_q_after : Cal P w K mg base b 2 "_law_after" ["_law_now", "_law_edit_here"] S_q_after) (n_range : mg "range" = none) (hlen : ∀ ds Q E, S ds Q E → ds.length = 3)
    (law : ∀ ds Q E, S ds Q E → t_law_planned S_q_first S_q_edit S_q_after (envOf 7 ds) (fin Q E)) : FnOk P w K mg base (L2.CX P w) 3 f fd ["_law_sack_here", "_law_count", "_law_is_staying"] (spV b S) := by
  refine fnV F sc_law_planned hlen (by decide) (fun cdv A outer s H E hr tk => ?_) law
  have hu := hr.units
  exact (vs_cons (vs_par2 (i := 3) (j := 4) rfl sc_law_planned.nd rfl rfl (by decide) rfl rfl (vm_nw (vn_lst va_nil) (vm_sh (ve_cal F_q_first hr tk (by rfl) (va_cons (ve_tup va_nil) va_nil)) vm_nil)) (by rfl))
      (vs_cons (vs_for (passes_of rfl) rfl (vi_range1 (by rfl) n_range (vxs_cons (vx_var (pv 1)) vxs_nil)) (vg_name (i := 5) sc_law_planned.nd rfl (.inl rfl))
      (vs_cons (vs_asg (i := 6) sc_law_planned.nd rfl (.inl rfl) (ve_cal F_q_edit hr tk (by rfl) (va_cons (ve_var (pv 0)) (va_cons (ve_var (pv 4)) va_nil))))
      (vs_cons (vs_if (VWe.pt (vw_and (vt_eq hu (VE.toX (ve_ix (vx_var (pv 6)) (VE.toX ve_int))) (VE.toX ve_str)) (vw_and1 (vt_val (vx_var (pv 2))))))
      (vs_one (vs_asg (i := 6) sc_law_planned.nd rfl (.inl rfl) (ve_tup (va_cons ve_str va_nil))))
      vs_nil)
      (vs_cons (vs_app (pv 3) (va_cons (ve_var (pv 6)) va_nil))
      (vs_one (vs_asg (i := 4) sc_law_planned.nd rfl (.inl rfl) (ve_ix (VE.toX (ve_cal F_q_after hr tk (by rfl) (va_cons (ve_var (pv 4)) (va_cons (ve_var (pv 6)) va_nil)))) (VE.toX ve_int))))))))
      (vs_one (vs_frz 3 (vs_ret (VN.toE (vn_lst (va_cons (ve_var (pv 3)) (va_cons (ve_var (pv 4)) va_nil)))))))))
abbrev s_Scene_init : Stmt := clsDef (topS 19) 0
abbrev N_Scene_init : List Str := ["self", "groups", "line", "done", "left", "mated", "passed", "letters"]
theorem sc_Scene_init : FnScope N_Scene_init ["self", "groups", "line", "done", "left", "mated", "passed", "letters"] (defScope s_Scene_init) := ⟨rfl, rfl, rfl, by decide +kernel, rfl, by decide +kernel, by decide +kernel⟩
theorem w_Scene_init {S : SI} (F : Fun K "__init__" "Scene.__init__" s_Scene_init f fd) (CL_Scene : Cls K (b.cls "Scene")) (NA_Scene_groups : NoAttr K (b.cls "Scene") "groups") (NA_Scene_line : NoAttr K (b.cls "Scene") "line") (NA_Scene_done : NoAttr K (b.cls "Scene") "done") (NA_Scene_left : NoAttr K (b.cls "Scene") "left") (NA_Scene_mated : NoAttr K (b.cls "Scene") "mated") (NA_Scene_passed : NoAttr K (b.cls "Scene") "passed") (NA_Scene_letters : NoAttr K (b.cls "Scene") "letters") (hlen : ∀ ds Q E, S ds Q E → ds.length + 1 = 8)
    (law : ∀ x ds Q E, S ds Q E → t_Scene_init (envI x "Scene" 8 ds) (finI x "Scene" Q E)) : FnOk P w K mg base (L2.CX P w) 1 f fd ["self", "groups", "line", "done", "left", "mated", "passed", "letters"] (spI b "Scene" S) := by
  refine fnI F sc_Scene_init hlen (by decide) (fun cdv A outer s H E hr tk => ?_) law
  exact (vs_cons (vs_fld CL_Scene NA_Scene_groups (pv 0) (ve_var (pv 1)))
      (vs_cons (vs_fld CL_Scene NA_Scene_line (pv 0) (ve_var (pv 2)))
      (vs_cons (vs_fld CL_Scene NA_Scene_done (pv 0) (ve_var (pv 3)))
      (vs_cons (vs_fld CL_Scene NA_Scene_left (pv 0) (ve_var (pv 4)))
      (vs_cons (vs_fld CL_Scene NA_Scene_mated (pv 0) (ve_var (pv 5)))
      (vs_cons (vs_fld CL_Scene NA_Scene_passed (pv 0) (ve_var (pv 6)))
      (vs_one (vs_fld CL_Scene NA_Scene_letters (pv 0) (ve_var (pv 7))))))))))
abbrev s_Queue_init : Stmt := clsDef (topS 20) 1
abbrev N_Queue_init : List Str := ["self"]
theorem sc_Queue_init : FnScope N_Queue_init ["self"] (defScope s_Queue_init) := ⟨rfl, rfl, rfl, by decide +kernel, rfl, by decide +kernel, by decide +kernel⟩
theorem w_Queue_init {S : SM} {S_Scene_init : SI} (F : Fun K "__init__" "Queue.__init__" s_Queue_init f fd) (F_Scene_init : CalI P w K mg base b 1 "Scene" ["self", "groups", "line", "done", "left", "mated", "passed", "letters"] S_Scene_init) (FQ_scenes : ∀ n ∈ qNs, Cls K (b.cls n) ∧ NoAttr K (b.cls n) "scenes") (FQ_kept : ∀ n ∈ qNs, Cls K (b.cls n) ∧ NoAttr K (b.cls n) "kept") (FQ_is_busy : ∀ n ∈ qNs, Cls K (b.cls n) ∧ NoAttr K (b.cls n) "is_busy") (hlen : ∀ x n fs ds1 ds2 Q E, S x n fs ds1 ds2 Q E → ds1.length + 1 + ds2.length = 1)
    (law : ∀ x n fs ds1 ds2 Q E, S x n fs ds1 ds2 Q E → t_Queue_init S_Scene_init (envM x n fs 1 ds1 ds2) (finM x n ds1.length Q E)) : FnOk P w K mg base (L2.CX P w) 3 f fd ["self"] (spM b S) := by
  refine fnM F sc_Queue_init hlen (by decide) (fun cdv A outer s H E hr tk => ?_) law
  exact (vs_cons (vs_fldQ FQ_scenes (pv 0) (ve_oneS (VN.toE (vn_make F_Scene_init hr tk (by rfl) (va_cons (ve_tup va_nil) (va_cons (ve_tup va_nil) (va_cons (ve_tup va_nil) (va_cons (ve_tup va_nil) (va_cons (ve_tup va_nil) (va_cons ve_int (va_cons ve_str va_nil)))))))))))
      (vs_cons (vs_fldQ FQ_kept (pv 0) (ve_tup va_nil))
      (vs_one (vs_fldQ FQ_is_busy (pv 0) ve_bl))))
abbrev s_Queue_require_idle : Stmt := clsDef (topS 20) 7
abbrev N_Queue_require_idle : List Str := ["self"]
theorem sc_Queue_require_idle : FnScope N_Queue_require_idle ["self"] (defScope s_Queue_require_idle) := ⟨rfl, rfl, rfl, by decide +kernel, rfl, by decide +kernel, by decide +kernel⟩
theorem w_Queue_require_idle {S : SV} (F : Fun K "require_idle" "Queue.require_idle" s_Queue_require_idle f fd) (FQ_is_busy : ∀ n ∈ qNs, Cls K (b.cls n) ∧ NoAttr K (b.cls n) "is_busy") (M_Busy : Mk0 K mg b "Busy") (hlen : ∀ ds Q E, S ds Q E → ds.length = 1)
    (law : ∀ ds Q E, S ds Q E → t_Queue_require_idle (envOf 1 ds) (fin Q E)) : FnOk P w K mg base (L2.CX P w) 1 f fd ["self"] (spV b S) := by
  refine fnV F sc_Queue_require_idle hlen (by decide) (fun cdv A outer s H E hr tk => ?_) law
  exact (vs_one (vs_if (vt_val (VE.toX (ve_fldQ FQ_is_busy (vx_var (pv 0)))))
      (vs_one (vs_raise0 M_Busy rfl tk (by rfl)))
      vs_nil))
abbrev s_is_whole : Stmt := topS 18
abbrev N_is_whole : List Str := ["value", "low", "high"]
theorem sc_is_whole : FnScope N_is_whole ["value", "low", "high"] (defScope s_is_whole) := ⟨rfl, rfl, rfl, by decide +kernel, rfl, by decide +kernel, by decide +kernel⟩
theorem w_is_whole {S : SV} (F : Fun K "is_whole" "is_whole" s_is_whole f fd) (n_isinstance : mg "isinstance" = none) (n_bool : mg "bool" = none) (n_int : mg "int" = none) (hlen : ∀ ds Q E, S ds Q E → ds.length = 3)
    (law : ∀ ds Q E, S ds Q E → t_is_whole (envOf 3 ds) (fin Q E)) : FnOk P w K mg base (L2.CX P w) 1 f fd ["value", "low", "high"] (spV b S) := by
  refine fnV F sc_is_whole hlen (by decide) (fun cdv A outer s H E hr tk => ?_) law
  exact (vs_one (vs_ret (ve_and (VE.toX (ve_isi (by rfl) n_isinstance (vxs_cons (vx_var (pv 0)) (vxs_cons (VE.toX (ve_tyInt (by rfl) n_int)) vxs_nil)))) (ve_and (VE.toX (ve_not (VE.toX (ve_isi (by rfl) n_isinstance (vxs_cons (vx_var (pv 0)) (vxs_cons (VE.toX (ve_tyBool (by rfl) n_bool)) vxs_nil)))))) (ve_one (ve_le2 (vx_var (pv 1)) (vx_var (pv 0)) (vx_var (pv 2))))))))
abbrev s_Queue_is_group : Stmt := clsDef (topS 20) 3
abbrev N_Queue_is_group : List Str := ["value"]
theorem sc_Queue_is_group : FnScope N_Queue_is_group ["value"] (defScope s_Queue_is_group) := ⟨rfl, rfl, rfl, by decide +kernel, rfl, by decide +kernel, by decide +kernel⟩
theorem w_Queue_is_group {S : SV} {S_is_whole : SV} (F : Fun K "is_group" "Queue.is_group" s_Queue_is_group f fd) (F_is_whole : Cal P w K mg base b 1 "is_whole" ["value", "low", "high"] S_is_whole) (c_MAX_GROUP : ∃ t, mg "MAX_GROUP" = some (.int 1000000000 t)) (hlen : ∀ ds Q E, S ds Q E → ds.length = 1)
    (law : ∀ ds Q E, S ds Q E → t_Queue_is_group S_is_whole (envOf 1 ds) (fin Q E)) : FnOk P w K mg base (L2.CX P w) 2 f fd ["value"] (spV b S) := by
  refine fnV F sc_Queue_is_group hlen (by decide) (fun cdv A outer s H E hr tk => ?_) law
  exact (vs_one (vs_ret (ve_cal F_is_whole hr tk (by rfl) (va_cons (ve_var (pv 0)) (va_cons ve_int (va_cons (ve_gint (by rfl) c_MAX_GROUP) va_nil))))))
abbrev s_Queue_people : Stmt := clsDef (topS 20) 4
abbrev N_Queue_people : List Str := ["self"]
theorem sc_Queue_people : FnScope N_Queue_people ["self"] (defScope s_Queue_people) := ⟨rfl, rfl, rfl, by decide +kernel, rfl, by decide +kernel, by decide +kernel⟩
theorem w_Queue_people {S : SV} (F : Fun K "people" "Queue.people" s_Queue_people f fd) (n_len : mg "len" = none) (FQ_scenes : ∀ n ∈ qNs, Cls K (b.cls n) ∧ NoAttr K (b.cls n) "scenes") (CL_Scene : Cls K (b.cls "Scene")) (NA_Scene_groups : NoAttr K (b.cls "Scene") "groups") (hlen : ∀ ds Q E, S ds Q E → ds.length = 1)
    (law : ∀ ds Q E, S ds Q E → t_Queue_people (envOf 1 ds) (fin Q E)) : FnOk P w K mg base (L2.CX P w) 1 f fd ["self"] (spV b S) := by
  refine fnV F sc_Queue_people hlen (by decide) (fun cdv A outer s H E hr tk => ?_) law
  exact (vs_one (vs_ret (ve_len (by rfl) n_len (vxs_cons (VE.toX (ve_fld CL_Scene NA_Scene_groups (VE.toX (ve_ixS (VE.toX (ve_fldQ FQ_scenes (vx_var (pv 0)))) (VE.toX (ve_neg (VE.toX ve_int))))))) vxs_nil))))
abbrev s_Scene_with_one : Stmt := clsDef (topS 19) 1
abbrev N_Scene_with_one : List Str := ["self", "group", "person", "places", "place", "line", "mated", "passed", "other"]
theorem sc_Scene_with_one : FnScope N_Scene_with_one ["self", "group"] (defScope s_Scene_with_one) := ⟨rfl, rfl, rfl, by decide +kernel, rfl, by decide +kernel, by decide +kernel⟩
theorem w_Scene_with_one {S : SV} {S_Scene_init : SI} (F : Fun K "with_one" "Scene.with_one" s_Scene_with_one f fd) (F_Scene_init : CalI P w K mg base b 1 "Scene" ["self", "groups", "line", "done", "left", "mated", "passed", "letters"] S_Scene_init) (n_len : mg "len" = none) (n_enumerate : mg "enumerate" = none) (CL_Scene : Cls K (b.cls "Scene")) (NA_Scene_groups : NoAttr K (b.cls "Scene") "groups") (NA_Scene_line : NoAttr K (b.cls "Scene") "line") (NA_Scene_mated : NoAttr K (b.cls "Scene") "mated") (NA_Scene_passed : NoAttr K (b.cls "Scene") "passed") (NA_Scene_done : NoAttr K (b.cls "Scene") "done") (NA_Scene_left : NoAttr K (b.cls "Scene") "left") (NA_Scene_letters : NoAttr K (b.cls "Scene") "letters") (hlen : ∀ ds Q E, S ds Q E → ds.length = 2)
    (law : ∀ ds Q E, S ds Q E → t_Scene_with_one S_Scene_init (envOf 9 ds) (fin Q E)) : FnOk P w K mg base (L2.CX P w) 3 f fd ["self", "group"] (spV b S) := by
  refine fnV F sc_Scene_with_one hlen (by decide) (fun cdv A outer s H E hr tk => ?_) law
  have hu := hr.units
  exact (vs_cons (vs_asg (i := 2) sc_Scene_with_one.nd rfl (.inl rfl) (ve_len (by rfl) n_len (vxs_cons (VE.toX (ve_fld CL_Scene NA_Scene_groups (vx_var (pv 0)))) vxs_nil)))
      (vs_cons (vs_setLcE (i := 3) (own := [("place", 4), ("other", 8)]) rfl sc_Scene_with_one.nd rfl rfl (by rfl) (vib_enum (by rfl) n_enumerate (vxs_cons (VE.toX (ve_fld CL_Scene NA_Scene_line (vx_var (pv 0)))) vxs_nil)) (blkOk_by (N := N_Scene_with_one) (sc := defScope s_Scene_with_one) (by decide +kernel)) (by decide) (fun _ _ _ _ _ => (vg_tup rfl (vgs_cons (vg_name (i := 4) sc_Scene_with_one.nd rfl (.inl rfl)) (vgs_cons (vg_name (i := 8) sc_Scene_with_one.nd rfl (.inl rfl)) vgs_nil)))) (fun _ _ _ _ _ => (vts_one (vt_eq hu (VE.toX (ve_ix (VE.toX (ve_fld CL_Scene NA_Scene_groups (vx_var (pv 0)))) (vx_var (pv 8)))) (vx_var (pv 1))))) (fun _ _ _ _ _ => (ve_var (pv 4))))
      (vs_cons (vs_asg (i := 4) sc_Scene_with_one.nd rfl (.inl rfl) (ve_if (vt_ne hu (vx_var (pv 3)) (VN.toX (vn_lst va_nil))) (ve_add (VE.toX (ve_ix (vx_var (pv 3)) (VE.toX (ve_neg (VE.toX ve_int))))) (VE.toX ve_int)) (ve_len (by rfl) n_len (vxs_cons (VE.toX (ve_fld CL_Scene NA_Scene_line (vx_var (pv 0)))) vxs_nil))))
      (vs_cons (vs_asg (i := 5) sc_Scene_with_one.nd rfl (.inl rfl) (ve_tup (va_star (ve_sl (VE.toX (ve_fld CL_Scene NA_Scene_line (vx_var (pv 0)))) vo_no (vo_at (vx_var (pv 4)))) (va_cons (ve_var (pv 2)) (va_star (ve_sl (VE.toX (ve_fld CL_Scene NA_Scene_line (vx_var (pv 0)))) (vo_at (vx_var (pv 4))) vo_no) va_nil)))))
      (vs_cons (vs_asg (i := 6) sc_Scene_with_one.nd rfl (.inl rfl) (ve_if (vt_ne hu (vx_var (pv 3)) (VN.toX (vn_lst va_nil))) (ve_tup (va_star (ve_fld CL_Scene NA_Scene_mated (vx_var (pv 0))) (va_cons (ve_var (pv 2)) va_nil))) (ve_fld CL_Scene NA_Scene_mated (vx_var (pv 0)))))
      (vs_cons (vs_asg (i := 7) sc_Scene_with_one.nd rfl (.inl rfl) (ve_sub (VE.toX (ve_add (VE.toX (ve_fld CL_Scene NA_Scene_passed (vx_var (pv 0)))) (VE.toX (ve_len (by rfl) n_len (vxs_cons (VE.toX (ve_fld CL_Scene NA_Scene_line (vx_var (pv 0)))) vxs_nil))))) (vx_var (pv 4))))
      (vs_one (vs_ret (VN.toE (vn_make F_Scene_init hr tk (by rfl) (va_cons (ve_tup (va_star (ve_fld CL_Scene NA_Scene_groups (vx_var (pv 0))) (va_cons (ve_var (pv 1)) va_nil))) (va_cons (ve_var (pv 5)) (va_cons (ve_fld CL_Scene NA_Scene_done (vx_var (pv 0))) (va_cons (ve_fld CL_Scene NA_Scene_left (vx_var (pv 0))) (va_cons (ve_var (pv 6)) (va_cons (ve_var (pv 7)) (va_cons (ve_add (VE.toX (ve_fld CL_Scene NA_Scene_letters (vx_var (pv 0)))) (VE.toX ve_str)) va_nil)))))))))))))))))
abbrev s_Queue_length : Stmt := clsDef (topS 20) 5
abbrev N_Queue_length : List Str := ["self"]
theorem sc_Queue_length : FnScope N_Queue_length ["self"] (defScope s_Queue_length) := ⟨rfl, rfl, rfl, by decide +kernel, rfl, by decide +kernel, by decide +kernel⟩
theorem w_Queue_length {S : SV} (F : Fun K "length" "Queue.length" s_Queue_length f fd) (n_len : mg "len" = none) (FQ_scenes : ∀ n ∈ qNs, Cls K (b.cls n) ∧ NoAttr K (b.cls n) "scenes") (CL_Scene : Cls K (b.cls "Scene")) (NA_Scene_line : NoAttr K (b.cls "Scene") "line") (hlen : ∀ ds Q E, S ds Q E → ds.length = 1)
    (law : ∀ ds Q E, S ds Q E → t_Queue_length (envOf 1 ds) (fin Q E)) : FnOk P w K mg base (L2.CX P w) 1 f fd ["self"] (spV b S) := by
  refine fnV F sc_Queue_length hlen (by decide) (fun cdv A outer s H E hr tk => ?_) law
  exact (vs_one (vs_ret (ve_len (by rfl) n_len (vxs_cons (VE.toX (ve_fld CL_Scene NA_Scene_line (VE.toX (ve_ixS (VE.toX (ve_fldQ FQ_scenes (vx_var (pv 0)))) (VE.toX (ve_neg (VE.toX ve_int))))))) vxs_nil))))
abbrev s_Scene_with_service : Stmt := clsDef (topS 19) 2
abbrev N_Scene_with_service : List Str := ["self", "done"]
theorem sc_Scene_with_service : FnScope N_Scene_with_service ["self"] (defScope s_Scene_with_service) := ⟨rfl, rfl, rfl, by decide +kernel, rfl, by decide +kernel, by decide +kernel⟩
theorem w_Scene_with_service {S : SV} {S_Scene_init : SI} (F : Fun K "with_service" "Scene.with_service" s_Scene_with_service f fd) (F_Scene_init : CalI P w K mg base b 1 "Scene" ["self", "groups", "line", "done", "left", "mated", "passed", "letters"] S_Scene_init) (CL_Scene : Cls K (b.cls "Scene")) (NA_Scene_done : NoAttr K (b.cls "Scene") "done") (NA_Scene_line : NoAttr K (b.cls "Scene") "line") (NA_Scene_groups : NoAttr K (b.cls "Scene") "groups") (NA_Scene_left : NoAttr K (b.cls "Scene") "left") (NA_Scene_mated : NoAttr K (b.cls "Scene") "mated") (NA_Scene_passed : NoAttr K (b.cls "Scene") "passed") (NA_Scene_letters : NoAttr K (b.cls "Scene") "letters") (hlen : ∀ ds Q E, S ds Q E → ds.length = 1)
    (law : ∀ ds Q E, S ds Q E → t_Scene_with_service S_Scene_init (envOf 2 ds) (fin Q E)) : FnOk P w K mg base (L2.CX P w) 3 f fd ["self"] (spV b S) := by
  refine fnV F sc_Scene_with_service hlen (by decide) (fun cdv A outer s H E hr tk => ?_) law
  exact (vs_cons (vs_asg (i := 1) sc_Scene_with_service.nd rfl (.inl rfl) (ve_tup (va_star (ve_fld CL_Scene NA_Scene_done (vx_var (pv 0))) (va_cons (ve_ix (VE.toX (ve_fld CL_Scene NA_Scene_line (vx_var (pv 0)))) (VE.toX ve_int)) va_nil))))
      (vs_one (vs_ret (VN.toE (vn_make F_Scene_init hr tk (by rfl) (va_cons (ve_fld CL_Scene NA_Scene_groups (vx_var (pv 0))) (va_cons (ve_sl (VE.toX (ve_fld CL_Scene NA_Scene_line (vx_var (pv 0)))) (vo_at (VE.toX ve_int)) vo_no) (va_cons (ve_var (pv 1)) (va_cons (ve_fld CL_Scene NA_Scene_left (vx_var (pv 0))) (va_cons (ve_fld CL_Scene NA_Scene_mated (vx_var (pv 0))) (va_cons (ve_fld CL_Scene NA_Scene_passed (vx_var (pv 0))) (va_cons (ve_add (VE.toX (ve_fld CL_Scene NA_Scene_letters (vx_var (pv 0)))) (VE.toX ve_str)) va_nil))))))))))))
abbrev s_Queue_require_waiting : Stmt := clsDef (topS 20) 8
abbrev N_Queue_require_waiting : List Str := ["self", "person"]
theorem sc_Queue_require_waiting : FnScope N_Queue_require_waiting ["self", "person"] (defScope s_Queue_require_waiting) := ⟨rfl, rfl, rfl, by decide +kernel, rfl, by decide +kernel, by decide +kernel⟩
theorem w_Queue_require_waiting {S : SV} {S_is_whole : SV} {S_Queue_people : SV} (F : Fun K "require_waiting" "Queue.require_waiting" s_Queue_require_waiting f fd) (F_is_whole : Cal P w K mg base b 1 "is_whole" ["value", "low", "high"] S_is_whole) (F_Queue_people : CalP P w K mg base b 1 qNs "people" S_Queue_people) (M_NoPerson : Mk1 P w K mg base b "NoPerson" "value") (FQ_scenes : ∀ n ∈ qNs, Cls K (b.cls n) ∧ NoAttr K (b.cls n) "scenes") (CL_Scene : Cls K (b.cls "Scene")) (NA_Scene_line : NoAttr K (b.cls "Scene") "line") (M_Absent : Mk1 P w K mg base b "Absent" "person") (hlen : ∀ ds Q E, S ds Q E → ds.length = 2)
    (law : ∀ ds Q E, S ds Q E → t_Queue_require_waiting S_is_whole S_Queue_people (envOf 2 ds) (fin Q E)) : FnOk P w K mg base (L2.CX P w) 3 f fd ["self", "person"] (spV b S) := by
  refine fnV F sc_Queue_require_waiting hlen (by decide) (fun cdv A outer s H E hr tk => ?_) law
  have hu := hr.units
  exact (vs_cons (vs_if (vt_not (vt_val (VE.toX (ve_cal F_is_whole hr tk (by rfl) (va_cons (ve_var (pv 1)) (va_cons ve_int (va_cons (ve_sub (VE.toX (ve_prop F_Queue_people hr (vq_obj (pv 0)))) (VE.toX ve_int)) va_nil)))))))
      (vs_one (vs_raise1 M_NoPerson hr rfl tk (by rfl) (ve_var (pv 1))))
      vs_nil)
      (vs_one (vs_if (vt_notIn hu (vx_var (pv 1)) (VE.toX (ve_fld CL_Scene NA_Scene_line (VE.toX (ve_ixS (VE.toX (ve_fldQ FQ_scenes (vx_var (pv 0)))) (VE.toX (ve_neg (VE.toX ve_int))))))))
      (vs_one (vs_raise1 M_Absent hr rfl tk (by rfl) (ve_var (pv 1))))
      vs_nil)))
abbrev s_Scene_without_one : Stmt := clsDef (topS 19) 3
abbrev N_Scene_without_one : List Str := ["self", "person", "line", "other"]
theorem sc_Scene_without_one : FnScope N_Scene_without_one ["self", "person"] (defScope s_Scene_without_one) := ⟨rfl, rfl, rfl, by decide +kernel, rfl, by decide +kernel, by decide +kernel⟩
theorem w_Scene_without_one {S : SV} {S_Scene_init : SI} (F : Fun K "without_one" "Scene.without_one" s_Scene_without_one f fd) (F_Scene_init : CalI P w K mg base b 1 "Scene" ["self", "groups", "line", "done", "left", "mated", "passed", "letters"] S_Scene_init) (n_tuple : mg "tuple" = none) (CL_Scene : Cls K (b.cls "Scene")) (NA_Scene_line : NoAttr K (b.cls "Scene") "line") (NA_Scene_groups : NoAttr K (b.cls "Scene") "groups") (NA_Scene_done : NoAttr K (b.cls "Scene") "done") (NA_Scene_left : NoAttr K (b.cls "Scene") "left") (NA_Scene_mated : NoAttr K (b.cls "Scene") "mated") (NA_Scene_passed : NoAttr K (b.cls "Scene") "passed") (NA_Scene_letters : NoAttr K (b.cls "Scene") "letters") (hlen : ∀ ds Q E, S ds Q E → ds.length = 2)
    (law : ∀ ds Q E, S ds Q E → t_Scene_without_one S_Scene_init (envOf 4 ds) (fin Q E)) : FnOk P w K mg base (L2.CX P w) 3 f fd ["self", "person"] (spV b S) := by
  refine fnV F sc_Scene_without_one hlen (by decide) (fun cdv A outer s H E hr tk => ?_) law
  have hu := hr.units
  exact (vs_cons (vs_asg (i := 2) sc_Scene_without_one.nd rfl (.inl rfl) (ve_tupleC (by rfl) n_tuple (vxs_cons (VN.toX (vn_lc (own := [("other", 3)]) rfl sc_Scene_without_one.nd (vib_src (VE.toX (ve_fld CL_Scene NA_Scene_line (vx_var (pv 0))))) (blkOk_by (N := N_Scene_without_one) (sc := defScope s_Scene_without_one) (by decide +kernel)) (by decide) (fun _ _ _ _ _ => (vg_name (i := 3) sc_Scene_without_one.nd rfl (.inl rfl))) (fun _ _ _ _ _ => (vts_one (vt_ne hu (vx_var (pv 3)) (vx_var (pv 1))))) (fun _ _ _ _ _ => (ve_var (pv 3))))) vxs_nil)))
      (vs_one (vs_ret (VN.toE (vn_make F_Scene_init hr tk (by rfl) (va_cons (ve_fld CL_Scene NA_Scene_groups (vx_var (pv 0))) (va_cons (ve_var (pv 2)) (va_cons (ve_fld CL_Scene NA_Scene_done (vx_var (pv 0))) (va_cons (ve_tup (va_star (ve_fld CL_Scene NA_Scene_left (vx_var (pv 0))) (va_cons (ve_var (pv 1)) va_nil))) (va_cons (ve_fld CL_Scene NA_Scene_mated (vx_var (pv 0))) (va_cons (ve_fld CL_Scene NA_Scene_passed (vx_var (pv 0))) (va_cons (ve_fld CL_Scene NA_Scene_letters (vx_var (pv 0))) va_nil))))))))))))
abbrev s_Queue_scene_after : Stmt := clsDef (topS 20) 9
abbrev N_Queue_scene_after : List Str := ["self", "edit"]
theorem sc_Queue_scene_after : FnScope N_Queue_scene_after ["self", "edit"] (defScope s_Queue_scene_after) := ⟨rfl, rfl, rfl, by decide +kernel, rfl, by decide +kernel, by decide +kernel⟩
theorem w_Queue_scene_after {S : SV} {S_Queue_is_group : SV} {S_Queue_people : SV} {S_Scene_with_one : SV} {S_Queue_length : SV} {S_Scene_with_service : SV} {S_Queue_require_waiting : SV} {S_Scene_without_one : SV} (F : Fun K "scene_after" "Queue.scene_after" s_Queue_scene_after f fd) (F_Queue_is_group : CalT P w K mg base b 2 qNs "is_group" S_Queue_is_group) (F_Queue_people : CalP P w K mg base b 1 qNs "people" S_Queue_people) (F_Scene_with_one : CalM P w K mg base b 3 "Scene" "with_one" ["self", "group"] S_Scene_with_one) (F_Queue_length : CalP P w K mg base b 1 qNs "length" S_Queue_length) (F_Scene_with_service : CalM P w K mg base b 3 "Scene" "with_service" ["self"] S_Scene_with_service) (F_Queue_require_waiting : CalQ P w K mg base b 3 qNs "require_waiting" (fun _ => S_Queue_require_waiting)) (F_Scene_without_one : CalM P w K mg base b 3 "Scene" "without_one" ["self", "person"] S_Scene_without_one) (c_ARRIVE : ∃ t, mg "ARRIVE" = some (.str "arrive" t)) (c_MAX_PEOPLE : ∃ t, mg "MAX_PEOPLE" = some (.int 40 t)) (c_SERVE : ∃ t, mg "SERVE" = some (.str "serve" t)) (M_NoGroup : Mk1 P w K mg base b "NoGroup" "value") (M_TooLarge : Mk1 P w K mg base b "TooLarge" "limit") (FQ_scenes : ∀ n ∈ qNs, Cls K (b.cls n) ∧ NoAttr K (b.cls n) "scenes") (M_Empty : Mk0 K mg b "Empty") (hlen : ∀ ds Q E, S ds Q E → ds.length = 2)
    (law : ∀ ds Q E, S ds Q E → t_Queue_scene_after S_Queue_is_group S_Queue_people S_Scene_with_one S_Queue_length S_Scene_with_service S_Queue_require_waiting S_Scene_without_one (envOf 2 ds) (fin Q E)) : FnOk P w K mg base (L2.CX P w) 4 f fd ["self", "edit"] (spV b S) := by
  refine fnV F sc_Queue_scene_after hlen (by decide) (fun cdv A outer s H E hr tk => ?_) law
  have hu := hr.units
  exact (vs_cons (vs_if (vt_eq hu (VE.toX (ve_ix (vx_var (pv 1)) (VE.toX ve_int))) (VE.toX (ve_gstr (by rfl) c_ARRIVE)))
      (vs_cons (vs_if (vt_not (vt_val (VE.toX (ve_stat F_Queue_is_group hr tk (vq_obj (pv 0)) (va_cons (ve_ix (vx_var (pv 1)) (VE.toX ve_int)) va_nil)))))
      (vs_one (vs_raise1 M_NoGroup hr rfl tk (by rfl) (ve_ix (vx_var (pv 1)) (VE.toX ve_int))))
      vs_nil)
      (vs_cons (vs_if (vt_eq hu (VE.toX (ve_prop F_Queue_people hr (vq_obj (pv 0)))) (VE.toX (ve_gint (by rfl) c_MAX_PEOPLE)))
      (vs_one (vs_raise1 M_TooLarge hr rfl tk (by rfl) (ve_gint (by rfl) c_MAX_PEOPLE)))
      vs_nil)
      (vs_one (vs_ret (ve_meth F_Scene_with_one hr tk (ve_ixS (VE.toX (ve_fldQ FQ_scenes (vx_var (pv 0)))) (VE.toX (ve_neg (VE.toX ve_int)))) (va_cons (ve_ix (vx_var (pv 1)) (VE.toX ve_int)) va_nil))))))
      vs_nil)
      (vs_cons (vs_if (vt_eq hu (VE.toX (ve_ix (vx_var (pv 1)) (VE.toX ve_int))) (VE.toX (ve_gstr (by rfl) c_SERVE)))
      (vs_cons (vs_if (vt_eq hu (VE.toX (ve_prop F_Queue_length hr (vq_obj (pv 0)))) (VE.toX ve_int))
      (vs_one (vs_raise0 M_Empty rfl tk (by rfl)))
      vs_nil)
      (vs_one (vs_ret (ve_meth0 (m := "with_service") F_Scene_with_service hr tk (ve_ixS (VE.toX (ve_fldQ FQ_scenes (vx_var (pv 0)))) (VE.toX (ve_neg (VE.toX ve_int))))))))
      vs_nil)
      (vs_cons (vs_expr (ve_methQ (m := "require_waiting") F_Queue_require_waiting hr tk (vq_obj (pv 0)) (VAs.toQs (va_cons (ve_ix (vx_var (pv 1)) (VE.toX ve_int)) va_nil))))
      (vs_one (vs_ret (ve_meth F_Scene_without_one hr tk (ve_ixS (VE.toX (ve_fldQ FQ_scenes (vx_var (pv 0)))) (VE.toX (ve_neg (VE.toX ve_int)))) (va_cons (ve_ix (vx_var (pv 1)) (VE.toX ve_int)) va_nil)))))))
abbrev s_Queue_perform : Stmt := clsDef (topS 20) 10
abbrev N_Queue_perform : List Str := ["self", "edit"]
theorem sc_Queue_perform : FnScope N_Queue_perform ["self", "edit"] (defScope s_Queue_perform) := ⟨rfl, rfl, rfl, by decide +kernel, rfl, by decide +kernel, by decide +kernel⟩
theorem w_Queue_perform {S : SM} {S_Queue_scene_after : SV} (F : Fun K "perform" "Queue.perform" s_Queue_perform f fd) (F_Queue_scene_after : CalQ P w K mg base b 4 qNs "scene_after" (fun _ => S_Queue_scene_after)) (n_len : mg "len" = none) (FQ_kept : ∀ n ∈ qNs, Cls K (b.cls n) ∧ NoAttr K (b.cls n) "kept") (FC_LIMIT : ConQ K b qNs "LIMIT" (.int 60)) (M_TooManyEdits : Mk0 K mg b "TooManyEdits") (FQ_scenes : ∀ n ∈ qNs, Cls K (b.cls n) ∧ NoAttr K (b.cls n) "scenes") (hlen : ∀ x n fs ds1 ds2 Q E, S x n fs ds1 ds2 Q E → ds1.length + 1 + ds2.length = 2)
    (law : ∀ x n fs ds1 ds2 Q E, S x n fs ds1 ds2 Q E → t_Queue_perform S_Queue_scene_after (envM x n fs 2 ds1 ds2) (finM x n ds1.length Q E)) : FnOk P w K mg base (L2.CX P w) 5 f fd ["self", "edit"] (spM b S) := by
  refine fnM F sc_Queue_perform hlen (by decide) (fun cdv A outer s H E hr tk => ?_) law
  have hu := hr.units
  exact (vs_cons (vs_if (vt_eq hu (VE.toX (ve_len (by rfl) n_len (vxs_cons (VE.toX (ve_fldQ FQ_kept (vx_var (pv 0)))) vxs_nil))) (VE.toX (ve_conQ FC_LIMIT (vq_obj (pv 0)))))
      (vs_one (vs_raise0 M_TooManyEdits rfl tk (by rfl)))
      vs_nil)
      (vs_cons (vs_fldQ FQ_scenes (pv 0) (ve_snocS (ve_fldQ FQ_scenes (vx_var (pv 0))) (ve_methQ (m := "scene_after") F_Queue_scene_after hr tk (vq_obj (pv 0)) (VAs.toQs (va_cons (ve_var (pv 1)) va_nil)))))
      (vs_cons (vs_fldQ FQ_kept (pv 0) (ve_tup (va_star (ve_fldQ FQ_kept (vx_var (pv 0))) (va_cons (ve_var (pv 1)) va_nil))))
      (vs_one (vs_retO (ve_len (by rfl) n_len (vxs_cons (VE.toX (ve_fldQ FQ_kept (vx_var (pv 0)))) vxs_nil)))))))
abbrev s_Queue_arrive : Stmt := clsDef (topS 20) 11
abbrev N_Queue_arrive : List Str := ["self", "group"]
theorem sc_Queue_arrive : FnScope N_Queue_arrive ["self", "group"] (defScope s_Queue_arrive) := ⟨rfl, rfl, rfl, by decide +kernel, rfl, by decide +kernel, by decide +kernel⟩
theorem w_Queue_arrive {S : SM} {S_Queue_require_idle : SV} {S_Queue_perform : SM} (F : Fun K "arrive" "Queue.arrive" s_Queue_arrive f fd) (F_Queue_require_idle : CalQ P w K mg base b 1 qNs "require_idle" (fun _ => S_Queue_require_idle)) (F_Queue_perform : CalX P w K mg base b 5 qNs "perform" (fun _ => S_Queue_perform)) (c_ARRIVE : ∃ t, mg "ARRIVE" = some (.str "arrive" t)) (hlen : ∀ x n fs ds1 ds2 Q E, S x n fs ds1 ds2 Q E → ds1.length + 1 + ds2.length = 2)
    (law : ∀ x n fs ds1 ds2 Q E, S x n fs ds1 ds2 Q E → t_Queue_arrive S_Queue_require_idle S_Queue_perform (envM x n fs 2 ds1 ds2) (finM x n ds1.length Q E)) : FnOk P w K mg base (L2.CX P w) 6 f fd ["self", "group"] (spM b S) := by
  refine fnM F sc_Queue_arrive hlen (by decide) (fun cdv A outer s H E hr tk => ?_) law
  exact (vs_cons (vs_expr (ve_methQ0 (m := "require_idle") F_Queue_require_idle hr tk (vq_obj (pv 0))))
      (vs_one (vs_retM (vm_meth (m := "perform") F_Queue_perform hr tk (pv 0) (va_cons (ve_tup (va_cons (ve_gstr (by rfl) c_ARRIVE) (va_cons (ve_var (pv 1)) va_nil))) va_nil)))))
abbrev s_Queue_serve : Stmt := clsDef (topS 20) 12
abbrev N_Queue_serve : List Str := ["self"]
theorem sc_Queue_serve : FnScope N_Queue_serve ["self"] (defScope s_Queue_serve) := ⟨rfl, rfl, rfl, by decide +kernel, rfl, by decide +kernel, by decide +kernel⟩
theorem w_Queue_serve {S : SM} {S_Queue_require_idle : SV} {S_Queue_perform : SM} (F : Fun K "serve" "Queue.serve" s_Queue_serve f fd) (F_Queue_require_idle : CalQ P w K mg base b 1 qNs "require_idle" (fun _ => S_Queue_require_idle)) (F_Queue_perform : CalX P w K mg base b 5 qNs "perform" (fun _ => S_Queue_perform)) (c_SERVE : ∃ t, mg "SERVE" = some (.str "serve" t)) (hlen : ∀ x n fs ds1 ds2 Q E, S x n fs ds1 ds2 Q E → ds1.length + 1 + ds2.length = 1)
    (law : ∀ x n fs ds1 ds2 Q E, S x n fs ds1 ds2 Q E → t_Queue_serve S_Queue_require_idle S_Queue_perform (envM x n fs 1 ds1 ds2) (finM x n ds1.length Q E)) : FnOk P w K mg base (L2.CX P w) 6 f fd ["self"] (spM b S) := by
  refine fnM F sc_Queue_serve hlen (by decide) (fun cdv A outer s H E hr tk => ?_) law
  exact (vs_cons (vs_expr (ve_methQ0 (m := "require_idle") F_Queue_require_idle hr tk (vq_obj (pv 0))))
      (vs_one (vs_retM (vm_meth (m := "perform") F_Queue_perform hr tk (pv 0) (va_cons (ve_tup (va_cons (ve_gstr (by rfl) c_SERVE) va_nil)) va_nil)))))
abbrev s_Queue_go_away : Stmt := clsDef (topS 20) 13
abbrev N_Queue_go_away : List Str := ["self", "person"]
theorem sc_Queue_go_away : FnScope N_Queue_go_away ["self", "person"] (defScope s_Queue_go_away) := ⟨rfl, rfl, rfl, by decide +kernel, rfl, by decide +kernel, by decide +kernel⟩
theorem w_Queue_go_away {S : SM} {S_Queue_require_idle : SV} {S_Queue_perform : SM} (F : Fun K "go_away" "Queue.go_away" s_Queue_go_away f fd) (F_Queue_require_idle : CalQ P w K mg base b 1 qNs "require_idle" (fun _ => S_Queue_require_idle)) (F_Queue_perform : CalX P w K mg base b 5 qNs "perform" (fun _ => S_Queue_perform)) (c_GO_AWAY : ∃ t, mg "GO_AWAY" = some (.str "go_away" t)) (hlen : ∀ x n fs ds1 ds2 Q E, S x n fs ds1 ds2 Q E → ds1.length + 1 + ds2.length = 2)
    (law : ∀ x n fs ds1 ds2 Q E, S x n fs ds1 ds2 Q E → t_Queue_go_away S_Queue_require_idle S_Queue_perform (envM x n fs 2 ds1 ds2) (finM x n ds1.length Q E)) : FnOk P w K mg base (L2.CX P w) 6 f fd ["self", "person"] (spM b S) := by
  refine fnM F sc_Queue_go_away hlen (by decide) (fun cdv A outer s H E hr tk => ?_) law
  exact (vs_cons (vs_expr (ve_methQ0 (m := "require_idle") F_Queue_require_idle hr tk (vq_obj (pv 0))))
      (vs_one (vs_retM (vm_meth (m := "perform") F_Queue_perform hr tk (pv 0) (va_cons (ve_tup (va_cons (ve_gstr (by rfl) c_GO_AWAY) (va_cons (ve_var (pv 1)) va_nil))) va_nil)))))
abbrev s_q_call : Stmt := topS 30
abbrev N_q_call : List Str := ["_law_queue", "_law_edit_here"]
theorem sc_q_call : FnScope N_q_call ["_law_queue", "_law_edit_here"] (defScope s_q_call) := ⟨rfl, rfl, rfl, by decide +kernel, rfl, by decide +kernel, by decide +kernel⟩
theorem w_q_call {S : SM} {S_Queue_arrive : SM} {S_Queue_serve : SM} {S_Queue_go_away : SM} (F : Fun K "_law_call" "_law_call" s_q_call f fd) (F_Queue_arrive : CalX P w K mg base b 6 qNs "arrive" (fun _ => S_Queue_arrive)) (F_Queue_serve : CalX P w K mg base b 6 qNs "serve" (fun _ => S_Queue_serve)) (F_Queue_go_away : CalX P w K mg base b 6 qNs "go_away" (fun _ => S_Queue_go_away)) (hlen : ∀ x n fs ds1 ds2 Q E, S x n fs ds1 ds2 Q E → ds1.length + 1 + ds2.length = 2)
    (law : ∀ x n fs ds1 ds2 Q E, S x n fs ds1 ds2 Q E → t_q_call S_Queue_arrive S_Queue_serve S_Queue_go_away (envM x n fs 2 ds1 ds2) (finM x n ds1.length Q E)) : FnOk P w K mg base (L2.CX P w) 7 f fd ["_law_queue", "_law_edit_here"] (spM b S) := by
  refine fnM F sc_q_call hlen (by decide) (fun cdv A outer s H E hr tk => ?_) law
  have hu := hr.units
  exact (vs_cons (vs_if (vt_eq hu (VE.toX (ve_ix (vx_var (pv 1)) (VE.toX ve_int))) (VE.toX ve_str))
      (vs_one (vs_retM (vm_meth (m := "arrive") F_Queue_arrive hr tk (pv 0) (va_cons (ve_ix (vx_var (pv 1)) (VE.toX ve_int)) va_nil))))
      vs_nil)
      (vs_one (vs_retM (vm_if (vt_eq hu (VE.toX (ve_ix (vx_var (pv 1)) (VE.toX ve_int))) (VE.toX ve_str)) (vm_meth0 (m := "serve") F_Queue_serve hr tk (pv 0)) (vm_meth (m := "go_away") F_Queue_go_away hr tk (pv 0) (va_cons (ve_ix (vx_var (pv 1)) (VE.toX ve_int)) va_nil))))))
abbrev s_law_performed : Stmt := topS 34
abbrev N_law_performed : List Str := ["_law_edits", "_law_queue", "_law_edit_here"]
theorem sc_law_performed : FnScope N_law_performed ["_law_edits"] (defScope s_law_performed) := ⟨rfl, rfl, rfl, by decide +kernel, rfl, by decide +kernel, by decide +kernel⟩
theorem w_law_performed {S : SV} {S_Queue_init : SM} {S_q_call : SM} (F : Fun K "_law_performed" "_law_performed" s_law_performed f fd) (FK_TalliedQueue : CalK P w K mg base b 3 "TalliedQueue" S_Queue_init) (F_q_call : CalF P w K mg base b 7 "_law_call" ["_law_queue", "_law_edit_here"] S_q_call) (hlen : ∀ ds Q E, S ds Q E → ds.length = 1)
    (law : ∀ ds Q E, S ds Q E → t_law_performed S_Queue_init S_q_call (envOf 3 ds) (finN Q E)) : FnOk P w K mg base (L2.CX P w) 8 f fd ["_law_edits"] (spN b S) := by
  refine fnN F sc_law_performed hlen (by decide) (fun cdv A outer s H E hr tk => ?_) law
  exact (vs_cons (vs_asgN (i := 1) sc_law_performed.nd rfl (.inl rfl) (vn_makeQ0 (n := "TalliedQueue") FK_TalliedQueue hr tk (by rfl)))
      (vs_cons (vs_for (passes_of rfl) rfl (vi_src (ve_var (pv 0))) (vg_name (i := 2) sc_law_performed.nd rfl (.inl rfl))
      (vs_one (vs_exprM (vm_call F_q_call hr tk (by rfl) (va1_own (pv 1) (va_cons (ve_var (pv 2)) va_nil))))))
      (vs_one (vs_retOw (pv 1)))))
abbrev s_law_with_others : Stmt := topS 33
abbrev N_law_with_others : List Str := ["_law_edits", "_law_kind", "_law_found", "_law_names", "_law_edit_here"]
theorem sc_law_with_others : FnScope N_law_with_others ["_law_edits", "_law_kind"] (defScope s_law_with_others) := ⟨rfl, rfl, rfl, by decide +kernel, rfl, by decide +kernel, by decide +kernel⟩
theorem w_law_with_others {S : SV} (F : Fun K "_law_with_others" "_law_with_others" s_law_with_others f fd) (n_len : mg "len" = none) (hlen : ∀ ds Q E, S ds Q E → ds.length = 2)
    (law : ∀ ds Q E, S ds Q E → t_law_with_others (envOf 5 ds) (fin Q E)) : FnOk P w K mg base (L2.CX P w) 1 f fd ["_law_edits", "_law_kind"] (spV b S) := by
  refine fnV F sc_law_with_others hlen (by decide) (fun cdv A outer s H E hr tk => ?_) law
  have hu := hr.units
  exact (vs_cons (vs_par2 (i := 2) (j := 3) rfl sc_law_with_others.nd rfl rfl (by decide) rfl rfl (vm_nw (vn_lst va_nil) (vm_nw vn_dict0 vm_nil)) (by rfl))
      (vs_cons (vs_for (passes_of rfl) rfl (vi_src (ve_var (pv 0))) (vg_name (i := 4) sc_law_with_others.nd rfl (.inl rfl))
      (vs_cons (vs_if (vt_eq hu (VE.toX (ve_ix (vx_var (pv 4)) (VE.toX ve_int))) (VE.toX ve_str))
      (vs_cons (vs_dputO (hu_of hr) (pv 3) (ve_ix (vx_var (pv 4)) (VE.toX ve_int)) (ve_dget2 (hu_of hr) (vx_var (pv 3)) (ve_ix (vx_var (pv 4)) (VE.toX ve_int)) (ve_add (VE.toX (ve_mulA (VE.toX ve_int) (VE.toX (ve_len (by rfl) n_len (vxs_cons (vx_var (pv 3)) vxs_nil))))) (VE.toX ve_int)) ⟨rfl, rfl, rfl, rfl⟩))
      (vs_one (vs_asg (i := 4) sc_law_with_others.nd rfl (.inl rfl) (ve_tup (va_cons ve_str (va_cons (ve_ix (VN.toX (vn_lst (va_cons (ve_dix (hu_of hr) (vx_var (pv 3)) (ve_ix (vx_var (pv 4)) (VE.toX ve_int))) (va_cons ve_int (va_cons (ve_len (by rfl) n_len (vxs_cons (vx_var (pv 2)) vxs_nil)) va_nil))))) (vx_var (pv 1))) va_nil))))))
      vs_nil)
      (vs_one (vs_app (pv 2) (va_cons (ve_var (pv 4)) va_nil)))))
      (vs_one (vs_frz 2 (vs_ret (ve_var (pv 2)))))))
abbrev s_TalliedQueue_jumps : Stmt := clsDef (topS 21) 1
abbrev N_TalliedQueue_jumps : List Str := ["self"]
theorem sc_TalliedQueue_jumps : FnScope N_TalliedQueue_jumps ["self"] (defScope s_TalliedQueue_jumps) := ⟨rfl, rfl, rfl, by decide +kernel, rfl, by decide +kernel, by decide +kernel⟩
theorem w_TalliedQueue_jumps {S : SV} (F : Fun K "jumps" "TalliedQueue.jumps" s_TalliedQueue_jumps f fd) (FQ_scenes : ∀ n ∈ qNs, Cls K (b.cls n) ∧ NoAttr K (b.cls n) "scenes") (CL_Scene : Cls K (b.cls "Scene")) (NA_Scene_passed : NoAttr K (b.cls "Scene") "passed") (hlen : ∀ ds Q E, S ds Q E → ds.length = 1)
    (law : ∀ ds Q E, S ds Q E → t_TalliedQueue_jumps (envOf 1 ds) (fin Q E)) : FnOk P w K mg base (L2.CX P w) 1 f fd ["self"] (spV b S) := by
  refine fnV F sc_TalliedQueue_jumps hlen (by decide) (fun cdv A outer s H E hr tk => ?_) law
  exact (vs_one (vs_ret (ve_fld CL_Scene NA_Scene_passed (VE.toX (ve_ixS (VE.toX (ve_fldQ FQ_scenes (vx_var (pv 0)))) (VE.toX (ve_neg (VE.toX ve_int))))))))
abbrev s_law_passes : Stmt := topS 35
abbrev N_law_passes : List Str := ["_law_order", "_law_k", "_law_one"]
theorem sc_law_passes : FnScope N_law_passes ["_law_order"] (defScope s_law_passes) := ⟨rfl, rfl, rfl, by decide +kernel, rfl, by decide +kernel, by decide +kernel⟩
theorem w_law_passes {S : SV} (F : Fun K "_law_passes" "_law_passes" s_law_passes f fd) (n_sum : mg "sum" = none) (n_range : mg "range" = none) (n_len : mg "len" = none) (hlen : ∀ ds Q E, S ds Q E → ds.length = 1)
    (law : ∀ ds Q E, S ds Q E → t_law_passes (envOf 3 ds) (fin Q E)) : FnOk P w K mg base (L2.CX P w) 1 f fd ["_law_order"] (spV b S) := by
  refine fnV F sc_law_passes hlen (by decide) (fun cdv A outer s H E hr tk => ?_) law
  exact (vs_one (vs_ret (ve_sum rfl (by rfl) n_sum (vxs_cons (VN.toX (vn_lc (own := [("_law_k", 1)]) rfl sc_law_passes.nd (vib_range1 (by rfl) n_range (vxs_cons (VE.toX (ve_len (by rfl) n_len (vxs_cons (vx_var (pv 0)) vxs_nil))) vxs_nil)) (blkOk_by (N := N_law_passes) (sc := defScope s_law_passes) (by decide +kernel)) (by decide) (fun _ _ _ _ _ => (vg_name (i := 1) sc_law_passes.nd rfl (.inr rfl))) (fun _ _ _ _ _ => vts_nil) (fun _ _ _ _ _ => (ve_len (by rfl) n_len (vxs_cons (VN.toX (vn_lc (own := [("_law_one", 2)]) rfl sc_law_passes.nd (vib_src (VE.toX (ve_sl (vx_var (pv 0)) vo_no (vo_at (vx_var (pv 1)))))) (blkOk_by (by kernel_rfl)) (by decide) (fun _ _ _ _ _ => (vg_name (i := 2) sc_law_passes.nd rfl (.inl rfl))) (fun _ _ _ _ _ => (vts_one (vt_gt (vx_var (pv 2)) (VE.toX (ve_ix (vx_var (pv 0)) (vx_var (pv 1))))))) (fun _ _ _ _ _ => (ve_var (pv 2))))) vxs_nil))))) vxs_nil))))
abbrev s_Queue_scene_at : Stmt := clsDef (topS 20) 20
abbrev N_Queue_scene_at : List Str := ["self", "version"]
theorem sc_Queue_scene_at : FnScope N_Queue_scene_at ["self", "version"] (defScope s_Queue_scene_at) := ⟨rfl, rfl, rfl, by decide +kernel, rfl, by decide +kernel, by decide +kernel⟩
theorem w_Queue_scene_at {S : SV} {S_is_whole : SV} (F : Fun K "scene_at" "Queue.scene_at" s_Queue_scene_at f fd) (F_is_whole : Cal P w K mg base b 1 "is_whole" ["value", "low", "high"] S_is_whole) (n_len : mg "len" = none) (FQ_scenes : ∀ n ∈ qNs, Cls K (b.cls n) ∧ NoAttr K (b.cls n) "scenes") (FQ_kept : ∀ n ∈ qNs, Cls K (b.cls n) ∧ NoAttr K (b.cls n) "kept") (M_NoVersion : Mk1 P w K mg base b "NoVersion" "version") (hlen : ∀ ds Q E, S ds Q E → ds.length = 2)
    (law : ∀ ds Q E, S ds Q E → t_Queue_scene_at S_is_whole (envOf 2 ds) (fin Q E)) : FnOk P w K mg base (L2.CX P w) 3 f fd ["self", "version"] (spV b S) := by
  refine fnV F sc_Queue_scene_at hlen (by decide) (fun cdv A outer s H E hr tk => ?_) law
  exact (vs_cons (vs_if (vt_isN (vx_var (pv 1)) (VE.toX ve_non))
      (vs_one (vs_ret (ve_ixS (VE.toX (ve_fldQ FQ_scenes (vx_var (pv 0)))) (VE.toX (ve_neg (VE.toX ve_int))))))
      vs_nil)
      (vs_cons (vs_if (vt_not (vt_val (VE.toX (ve_cal F_is_whole hr tk (by rfl) (va_cons (ve_var (pv 1)) (va_cons ve_int (va_cons (ve_len (by rfl) n_len (vxs_cons (VE.toX (ve_fldQ FQ_kept (vx_var (pv 0)))) vxs_nil)) va_nil)))))))
      (vs_one (vs_raise1 M_NoVersion hr rfl tk (by rfl) (ve_var (pv 1))))
      vs_nil)
      (vs_one (vs_ret (ve_ixS (VE.toX (ve_fldQ FQ_scenes (vx_var (pv 0)))) (vx_var (pv 1)))))))
abbrev s_Queue_served : Stmt := clsDef (topS 20) 23
abbrev N_Queue_served : List Str := ["self", "version"]
theorem sc_Queue_served : FnScope N_Queue_served ["self", "version"] (defScope s_Queue_served) := ⟨rfl, rfl, rfl, by decide +kernel, rfl, by decide +kernel, by decide +kernel⟩
theorem w_Queue_served {S : SV} {S_Queue_scene_at : SV} (F : Fun K "served" "Queue.served" s_Queue_served f fd) (F_Queue_scene_at : CalQ P w K mg base b 3 qNs "scene_at" (fun _ => S_Queue_scene_at)) (CL_Scene : Cls K (b.cls "Scene")) (NA_Scene_done : NoAttr K (b.cls "Scene") "done") (hlen : ∀ ds Q E, S ds Q E → ds.length = 2)
    (law : ∀ ds Q E, S ds Q E → t_Queue_served S_Queue_scene_at (envOf 2 ds) (fin Q E)) : FnOk P w K mg base (L2.CX P w) 4 f fd ["self", "version"] (spV b S) := by
  refine fnV F sc_Queue_served hlen (by decide) (fun cdv A outer s H E hr tk => ?_) law
  exact (vs_one (vs_ret (ve_fld CL_Scene NA_Scene_done (VE.toX (ve_methQ (m := "scene_at") F_Queue_scene_at hr tk (vq_obj (pv 0)) (VAs.toQs (va_cons (ve_var (pv 1)) va_nil)))))))
abbrev s_Queue_waiting : Stmt := clsDef (topS 20) 22
abbrev N_Queue_waiting : List Str := ["self", "version"]
theorem sc_Queue_waiting : FnScope N_Queue_waiting ["self", "version"] (defScope s_Queue_waiting) := ⟨rfl, rfl, rfl, by decide +kernel, rfl, by decide +kernel, by decide +kernel⟩
theorem w_Queue_waiting {S : SV} {S_Queue_scene_at : SV} (F : Fun K "waiting" "Queue.waiting" s_Queue_waiting f fd) (F_Queue_scene_at : CalQ P w K mg base b 3 qNs "scene_at" (fun _ => S_Queue_scene_at)) (CL_Scene : Cls K (b.cls "Scene")) (NA_Scene_line : NoAttr K (b.cls "Scene") "line") (hlen : ∀ ds Q E, S ds Q E → ds.length = 2)
    (law : ∀ ds Q E, S ds Q E → t_Queue_waiting S_Queue_scene_at (envOf 2 ds) (fin Q E)) : FnOk P w K mg base (L2.CX P w) 4 f fd ["self", "version"] (spV b S) := by
  refine fnV F sc_Queue_waiting hlen (by decide) (fun cdv A outer s H E hr tk => ?_) law
  exact (vs_one (vs_ret (ve_fld CL_Scene NA_Scene_line (VE.toX (ve_methQ (m := "scene_at") F_Queue_scene_at hr tk (vq_obj (pv 0)) (VAs.toQs (va_cons (ve_var (pv 1)) va_nil)))))))
abbrev s_TalliedQueue_joined : Stmt := clsDef (topS 21) 0
abbrev N_TalliedQueue_joined : List Str := ["self"]
theorem sc_TalliedQueue_joined : FnScope N_TalliedQueue_joined ["self"] (defScope s_TalliedQueue_joined) := ⟨rfl, rfl, rfl, by decide +kernel, rfl, by decide +kernel, by decide +kernel⟩
theorem w_TalliedQueue_joined {S : SV} (F : Fun K "joined" "TalliedQueue.joined" s_TalliedQueue_joined f fd) (FQ_scenes : ∀ n ∈ qNs, Cls K (b.cls n) ∧ NoAttr K (b.cls n) "scenes") (CL_Scene : Cls K (b.cls "Scene")) (NA_Scene_mated : NoAttr K (b.cls "Scene") "mated") (hlen : ∀ ds Q E, S ds Q E → ds.length = 1)
    (law : ∀ ds Q E, S ds Q E → t_TalliedQueue_joined (envOf 1 ds) (fin Q E)) : FnOk P w K mg base (L2.CX P w) 1 f fd ["self"] (spV b S) := by
  refine fnV F sc_TalliedQueue_joined hlen (by decide) (fun cdv A outer s H E hr tk => ?_) law
  exact (vs_one (vs_ret (ve_fld CL_Scene NA_Scene_mated (VE.toX (ve_ixS (VE.toX (ve_fldQ FQ_scenes (vx_var (pv 0)))) (VE.toX (ve_neg (VE.toX ve_int))))))))
abbrev s_Queue_gone : Stmt := clsDef (topS 20) 24
abbrev N_Queue_gone : List Str := ["self", "version"]
theorem sc_Queue_gone : FnScope N_Queue_gone ["self", "version"] (defScope s_Queue_gone) := ⟨rfl, rfl, rfl, by decide +kernel, rfl, by decide +kernel, by decide +kernel⟩
theorem w_Queue_gone {S : SV} {S_Queue_scene_at : SV} (F : Fun K "gone" "Queue.gone" s_Queue_gone f fd) (F_Queue_scene_at : CalQ P w K mg base b 3 qNs "scene_at" (fun _ => S_Queue_scene_at)) (CL_Scene : Cls K (b.cls "Scene")) (NA_Scene_left : NoAttr K (b.cls "Scene") "left") (hlen : ∀ ds Q E, S ds Q E → ds.length = 2)
    (law : ∀ ds Q E, S ds Q E → t_Queue_gone S_Queue_scene_at (envOf 2 ds) (fin Q E)) : FnOk P w K mg base (L2.CX P w) 4 f fd ["self", "version"] (spV b S) := by
  refine fnV F sc_Queue_gone hlen (by decide) (fun cdv A outer s H E hr tk => ?_) law
  exact (vs_one (vs_ret (ve_fld CL_Scene NA_Scene_left (VE.toX (ve_methQ (m := "scene_at") F_Queue_scene_at hr tk (vq_obj (pv 0)) (VAs.toQs (va_cons (ve_var (pv 1)) va_nil)))))))
abbrev s_Queue_word : Stmt := clsDef (topS 20) 26
abbrev N_Queue_word : List Str := ["self"]
theorem sc_Queue_word : FnScope N_Queue_word ["self"] (defScope s_Queue_word) := ⟨rfl, rfl, rfl, by decide +kernel, rfl, by decide +kernel, by decide +kernel⟩
theorem w_Queue_word {S : SV} (F : Fun K "word" "Queue.word" s_Queue_word f fd) (FQ_scenes : ∀ n ∈ qNs, Cls K (b.cls n) ∧ NoAttr K (b.cls n) "scenes") (CL_Scene : Cls K (b.cls "Scene")) (NA_Scene_left : NoAttr K (b.cls "Scene") "left") (NA_Scene_letters : NoAttr K (b.cls "Scene") "letters") (hlen : ∀ ds Q E, S ds Q E → ds.length = 1)
    (law : ∀ ds Q E, S ds Q E → t_Queue_word (envOf 1 ds) (fin Q E)) : FnOk P w K mg base (L2.CX P w) 1 f fd ["self"] (spV b S) := by
  refine fnV F sc_Queue_word hlen (by decide) (fun cdv A outer s H E hr tk => ?_) law
  have hu := hr.units
  exact (vs_one (vs_ret (ve_if (vt_eq hu (VE.toX (ve_fld CL_Scene NA_Scene_left (VE.toX (ve_ixS (VE.toX (ve_fldQ FQ_scenes (vx_var (pv 0)))) (VE.toX (ve_neg (VE.toX ve_int))))))) (VE.toX (ve_tup va_nil))) (ve_fld CL_Scene NA_Scene_letters (VE.toX (ve_ixS (VE.toX (ve_fldQ FQ_scenes (vx_var (pv 0)))) (VE.toX (ve_neg (VE.toX ve_int)))))) ve_non)))
abbrev s_Queue_told : Stmt := clsDef (topS 20) 30
abbrev N_Queue_told : List Str := ["self"]
theorem sc_Queue_told : FnScope N_Queue_told ["self"] (defScope s_Queue_told) := ⟨rfl, rfl, rfl, by decide +kernel, rfl, by decide +kernel, by decide +kernel⟩
theorem w_Queue_told {S : SV} {S_Queue_length : SV} {S_Queue_people : SV} (F : Fun K "told" "Queue.told" s_Queue_told f fd) (F_Queue_length : CalP P w K mg base b 1 qNs "length" S_Queue_length) (F_Queue_people : CalP P w K mg base b 1 qNs "people" S_Queue_people) (n_len : mg "len" = none) (FQ_kept : ∀ n ∈ qNs, Cls K (b.cls n) ∧ NoAttr K (b.cls n) "kept") (hlen : ∀ ds Q E, S ds Q E → ds.length = 1)
    (law : ∀ ds Q E, S ds Q E → t_Queue_told S_Queue_length S_Queue_people (envOf 1 ds) (fin Q E)) : FnOk P w K mg base (L2.CX P w) 3 f fd ["self"] (spV b S) := by
  refine fnV F sc_Queue_told hlen (by decide) (fun cdv A outer s H E hr tk => ?_) law
  exact (vs_one (vs_ret (ve_join (vj_cons (ve_fmt (ve_prop F_Queue_people hr (vq_obj (pv 0)))) (vj_cons ve_str (vj_cons (ve_fmt (ve_prop F_Queue_length hr (vq_obj (pv 0)))) (vj_cons ve_str (vj_cons (ve_fmt (ve_len (by rfl) n_len (vxs_cons (VE.toX (ve_fldQ FQ_kept (vx_var (pv 0)))) vxs_nil))) (vj_cons ve_str vj_nil)))))))))
abbrev s_TalliedQueue_told : Stmt := clsDef (topS 21) 3
theorem sc_TalliedQueue_told : NdefX.NScope ["self", "__class__", "text"] ["self"] ["__class__"] (defScope s_TalliedQueue_told) := NdefX.nscope_by (by decide +kernel)
theorem w_TalliedQueue_told {S0 S1 : SV} {S_TalliedQueue_jumps : SV} {S_TalliedQueue_joined : SV} {cda cc f2 : Addr} (F : FunS P K "told" "TalliedQueue.told" s_TalliedQueue_told f fd cda cc (b.cls "TalliedQueue") f2) (F0 : FnR P w K mg base (L2.CX P w) 3 f2 (spV b S0)) (F_TalliedQueue_jumps : CalP P w K mg base b 1 ["TalliedQueue"] "jumps" S_TalliedQueue_jumps) (F_TalliedQueue_joined : CalP P w K mg base b 1 ["TalliedQueue"] "joined" S_TalliedQueue_joined) (n_super : mg "super" = none) (n_len : mg "len" = none)
    (law : ∀ ds Q E, S1 ds Q E → ∃ a fs, ds = [.rob a "TalliedQueue" fs] ∧ S0 ds (fun d => t_TalliedQueue_told S_TalliedQueue_jumps S_TalliedQueue_joined [.shr (.rob a "TalliedQueue" fs), .un, .shr d] (fin Q E)) E) : FnOk P w K mg base (L2.CX P w) 4 f fd ["self"] (spV b S1) := by
  refine fnSup F sc_TalliedQueue_told rfl rfl rfl rfl rfl rfl rfl (by decide) (fun _ => rfl) (fun _ => rfl) n_super F0 (fun A outer s H E hr tk => ?_) law
  have hu := hr.units
  exact (vs_one (vs_ret (ve_join (vj_cons (ve_fmt (ve_var (pv 2))) (vj_cons ve_str (vj_cons (ve_fmt (ve_len (by rfl) n_len (vxs_cons (VE.toX (ve_prop F_TalliedQueue_joined hr (vq_obj (pv 0)))) vxs_nil))) (vj_cons ve_str (vj_cons (ve_fmt (ve_prop F_TalliedQueue_jumps hr (vq_obj (pv 0)))) (vj_cons ve_str vj_nil)))))))))
abbrev s_Queue_str : Stmt := clsDef (topS 20) 37
abbrev N_Queue_str : List Str := ["self"]
theorem sc_Queue_str : FnScope N_Queue_str ["self"] (defScope s_Queue_str) := ⟨rfl, rfl, rfl, by decide +kernel, rfl, by decide +kernel, by decide +kernel⟩
theorem w_Queue_str {S : SV} {S_Queue_told : Str → SV} (F : Fun K "__str__" "Queue.__str__" s_Queue_str f fd) (F_Queue_told : CalQ P w K mg base b 4 qNs "told" S_Queue_told) (hlen : ∀ ds Q E, S ds Q E → ds.length = 1)
    (law : ∀ ds Q E, S ds Q E → t_Queue_str S_Queue_told (envOf 1 ds) (fin Q E)) : FnOk P w K mg base (L2.CX P w) 5 f fd ["self"] (spV b S) := by
  refine fnV F sc_Queue_str hlen (by decide) (fun cdv A outer s H E hr tk => ?_) law
  exact (vs_one (vs_ret (ve_join1 (ve_fmt (ve_methQ0 (m := "told") F_Queue_told hr tk (vq_obj (pv 0)))))))
abbrev s_law_plain_right : Stmt := topS 36
abbrev N_law_plain_right : List Str := ["_law_edits", "_law_kind", "_law_queue", "_law_due", "_law_waiting", "_law_people", "_law_edit_here", "_law_order"]
theorem sc_law_plain_right : FnScope N_law_plain_right ["_law_edits", "_law_kind"] (defScope s_law_plain_right) := ⟨rfl, rfl, rfl, by decide +kernel, rfl, by decide +kernel, by decide +kernel⟩
theorem w_law_plain_right {S : SV} {S_law_performed : SV} {S_law_with_others : SV} {S_Queue_served : SV} {S_Queue_waiting : SV} {S_TalliedQueue_joined : SV} {S_TalliedQueue_jumps : SV} (F : Fun K "_law_plain_right" "_law_plain_right" s_law_plain_right f fd) (F_law_performed : CalN P w K mg base b 8 "_law_performed" ["_law_edits"] S_law_performed) (F_law_with_others : Cal P w K mg base b 1 "_law_with_others" ["_law_edits", "_law_kind"] S_law_with_others) (F_Queue_served : CalQ P w K mg base b 4 qNs "served" (fun _ => svW .none S_Queue_served)) (F_Queue_waiting : CalQ P w K mg base b 4 qNs "waiting" (fun _ => svW .none S_Queue_waiting)) (F_TalliedQueue_joined : CalP P w K mg base b 1 ["TalliedQueue"] "joined" S_TalliedQueue_joined) (F_TalliedQueue_jumps : CalP P w K mg base b 1 ["TalliedQueue"] "jumps" S_TalliedQueue_jumps) (n_int : mg "int" = none) (n_tuple : mg "tuple" = none) (n_list : mg "list" = none) (n_sorted : mg "sorted" = none) (hlen : ∀ ds Q E, S ds Q E → ds.length = 2)
    (law : ∀ ds Q E, S ds Q E → t_law_plain_right S_law_performed S_law_with_others S_Queue_served S_Queue_waiting S_TalliedQueue_joined S_TalliedQueue_jumps (envOf 8 ds) (fin Q E)) : FnOk P w K mg base (L2.CX P w) 9 f fd ["_law_edits", "_law_kind"] (spV b S) := by
  refine fnV F sc_law_plain_right hlen (by decide) (fun cdv A outer s H E hr tk => ?_) law
  have hu := hr.units
  exact (vs_cons (vs_par3 (i := 2) (j := 3) (k := 4) rfl sc_law_plain_right.nd rfl rfl rfl (by decide) (by decide) (by decide) rfl rfl rfl (vm_nw (vn_callN F_law_performed hr tk (by rfl) (va_cons (ve_cal F_law_with_others hr tk (by rfl) (va_cons (ve_var (pv 0)) (va_cons (ve_var (pv 1)) va_nil))) va_nil)) (vm_sh (VN.toE (vn_lst va_nil)) (vm_sh ve_int vm_nil))) (by rfl))
      (vs_cons (vs_asg (i := 5) sc_law_plain_right.nd rfl (.inl rfl) ve_int)
      (vs_cons (vs_for (passes_of rfl) rfl (vi_src (ve_var (pv 0))) (vg_name (i := 6) sc_law_plain_right.nd rfl (.inl rfl))
      (vs_one (vs_if (vt_eq hu (VE.toX (ve_ix (vx_var (pv 6)) (VE.toX ve_int))) (VE.toX ve_str))
      (vs_cons (vs_asg (i := 3) sc_law_plain_right.nd rfl (.inl rfl) (ve_add (vx_var (pv 3)) (VE.toX (ve_mulA (VN.toX (vn_lst (va_cons (ve_var (pv 5)) va_nil))) (VE.toX (ve_intC (by rfl) n_int (vxs_cons (VE.toX (ve_and (VE.toX (ve_gt (vx_var (pv 4)) (VE.toX ve_int))) (ve_one (ve_eq hu (vx_var (pv 1)) (VE.toX ve_int))))) vxs_nil)))))))
      (vs_one (vs_par2 (i := 5) (j := 4) rfl sc_law_plain_right.nd rfl rfl (by decide) rfl rfl (vm_sh (ve_add (vx_var (pv 5)) (VE.toX ve_int)) (vm_sh (ve_add (vx_var (pv 4)) (VE.toX ve_int)) vm_nil)) (by rfl))))
      (vs_one (vs_asg (i := 4) sc_law_plain_right.nd rfl (.inl rfl) (ve_sub (vx_var (pv 4)) (VE.toX ve_int)))))))
      (vs_cons (vs_asg (i := 7) sc_law_plain_right.nd rfl (.inl rfl) (ve_add (VE.toX (ve_methQ0 (m := "served") F_Queue_served hr tk (vq_obj (pv 2)))) (VE.toX (ve_methQ0 (m := "waiting") F_Queue_waiting hr tk (vq_obj (pv 2))))))
      (vs_one (vs_ret (ve_and (VE.toX (ve_eq hu (VN.toX (vn_listC (by rfl) n_list (vxs_cons (vx_var (pv 7)) vxs_nil))) (VN.toX (vn_sortedC (by rfl) n_sorted (vxs_cons (vx_var (pv 7)) vxs_nil))))) (ve_and (VE.toX (ve_eq hu (VE.toX (ve_prop F_TalliedQueue_jumps hr (vq_obj (pv 2)))) (VE.toX ve_int))) (ve_one (ve_eq hu (VE.toX (ve_prop F_TalliedQueue_joined hr (vq_obj (pv 2)))) (VE.toX (ve_tupleC (by rfl) n_tuple (vxs_cons (vx_var (pv 3)) vxs_nil)))))))))))))
abbrev s_law : Stmt := topS 37
abbrev N_law : List Str := ["_law_script", "_law_sack_here", "_law_turn", "_law_is_staying", "_law_edits", "_law_now", "_law_queue", "_law_other", "_law_found", "_law_due"]
theorem sc_law : FnScope N_law ["_law_script"] (defScope s_law) := ⟨rfl, rfl, rfl, by decide +kernel, rfl, by decide +kernel, by decide +kernel⟩
theorem w_law {S_law_planned : SV} {S_law_grab : SV} {S_law_performed : SV} {S_law_with_others : SV} {S_TalliedQueue_jumps : SV} {S_law_passes : SV} {S_Queue_served : SV} {S_Queue_waiting : SV} {S_TalliedQueue_joined : SV} {S_Queue_gone : SV} {S_Queue_word : SV} {S_Queue_str : SV} {S_law_plain_right : SV} (F_law_planned : Cal P w K mg base b 3 "_law_planned" ["_law_sack_here", "_law_count", "_law_is_staying"] S_law_planned) (F_law_grab : Cal P w K mg base b 1 "_law_grab" ["_law_sack_here", "_law_many"] S_law_grab) (F_law_performed : CalN P w K mg base b 8 "_law_performed" ["_law_edits"] S_law_performed) (F_law_with_others : Cal P w K mg base b 1 "_law_with_others" ["_law_edits", "_law_kind"] S_law_with_others) (F_TalliedQueue_jumps : CalP P w K mg base b 1 ["TalliedQueue"] "jumps" S_TalliedQueue_jumps) (F_law_passes : Cal P w K mg base b 1 "_law_passes" ["_law_order"] S_law_passes) (F_Queue_served : CalQ P w K mg base b 4 qNs "served" (fun _ => svW .none S_Queue_served)) (F_Queue_waiting : CalQ P w K mg base b 4 qNs "waiting" (fun _ => svW .none S_Queue_waiting)) (F_TalliedQueue_joined : CalP P w K mg base b 1 ["TalliedQueue"] "joined" S_TalliedQueue_joined) (F_Queue_gone : CalQ P w K mg base b 4 qNs "gone" (fun _ => svW .none S_Queue_gone)) (F_Queue_word : CalQ P w K mg base b 1 qNs "word" (fun _ => S_Queue_word)) (F_Queue_str : CalD1 P w K mg base b 5 qNs "__str__" (fun _ => S_Queue_str)) (F_law_plain_right : Cal P w K mg base b 9 "_law_plain_right" ["_law_edits", "_law_kind"] S_law_plain_right) (n_range : mg "range" = none) (n_str : mg "str" = none) (cdv : Value) (A : Around) (outer : List Env) (s : Shared) (H : Hp) (E : XK) (hr : Room 9 (A.deeper (envOfC "law" (defScope s_law) s.heap.objs.size f cdv))) (hgd : (A.deeper (envOfC "law" (defScope s_law) s.heap.objs.size f cdv)).guards = some []) (tk : Takes (cxOf (L2.CX P w) P w K mg base N_law "law" (defScope s_law) f cdv A outer s H E) (WF E)) : VSs (cxOf (L2.CX P w) P w K mg base N_law "law" (defScope s_law) f cdv A outer s H E) b (WF E) (defBody s_law).tail (t_law S_law_planned S_law_grab S_law_performed S_law_with_others S_TalliedQueue_jumps S_law_passes S_Queue_served S_Queue_waiting S_TalliedQueue_joined S_Queue_gone S_Queue_word S_Queue_str S_law_plain_right) := by
  have hu := hr.units
  exact (vs_cons (vs_for (passes_of rfl) rfl (vi_range1 (by rfl) n_range (vxs_cons (VE.toX ve_int) vxs_nil)) (vg_name (i := 2) sc_law.nd rfl (.inl rfl))
      (vs_cons (vs_asg (i := 3) sc_law.nd rfl (.inl rfl) (ve_eq hu (VE.toX (ve_mod (vx_var (pv 2)) (VE.toX ve_int))) (VE.toX ve_int)))
      (vs_cons (vs_asgT (ve_cal F_law_planned hr tk (by rfl) (va_cons (ve_var (pv 1)) (va_cons (ve_cal F_law_grab hr tk (by rfl) (va_cons (ve_var (pv 1)) (va_cons ve_int va_nil))) (va_cons (ve_var (pv 3)) va_nil)))) (vg_unl rfl (vgs_cons (vg_name (i := 4) sc_law.nd rfl (.inl rfl)) (vgs_cons (vg_name (i := 5) sc_law.nd rfl (.inl rfl)) vgs_nil))))
      (vs_cons (vs_par2 (i := 6) (j := 7) rfl sc_law.nd rfl rfl (by decide) rfl rfl (vm_nw (vn_callN F_law_performed hr tk (by rfl) (va_cons (ve_var (pv 4)) va_nil)) (vm_nw (vn_callN F_law_performed hr tk (by rfl) (va_cons (ve_cal F_law_with_others hr tk (by rfl) (va_cons (ve_var (pv 4)) (va_cons ve_int va_nil))) va_nil)) vm_nil)) (by rfl))
      (vs_cons (vs_if (VWe.pt (vw_and (vt_val (vx_var (pv 3))) (vw_and1 (vt_ne hu (VE.toX (ve_prop F_TalliedQueue_jumps hr (vq_obj (pv 6)))) (VE.toX (ve_cal F_law_passes hr tk (by rfl) (va_cons (ve_add (VE.toX (ve_methQ0 (m := "served") F_Queue_served hr tk (vq_obj (pv 6)))) (VE.toX (ve_methQ0 (m := "waiting") F_Queue_waiting hr tk (vq_obj (pv 6))))) va_nil)))))))
      (vs_one (vs_ret ve_bl))
      vs_nil)
      (vs_cons (vs_if (vt_ne hu (VN.toX (vn_lst (va_cons (ve_prop F_TalliedQueue_joined hr (vq_obj (pv 6))) (va_cons (ve_prop F_TalliedQueue_jumps hr (vq_obj (pv 6))) va_nil)))) (VN.toX (vn_lst (va_cons (ve_ix (vx_var (pv 5)) (VE.toX ve_int)) (va_cons (ve_ix (vx_var (pv 5)) (VE.toX ve_int)) va_nil)))))
      (vs_one (vs_ret ve_bl))
      vs_nil)
      (vs_cons (vs_asg (i := 8) sc_law.nd rfl (.inl rfl) (VN.toE (vn_lst (va_cons (ve_methQ0 (m := "waiting") F_Queue_waiting hr tk (vq_obj (pv 6))) (va_cons (ve_methQ0 (m := "served") F_Queue_served hr tk (vq_obj (pv 6))) (va_cons (ve_methQ0 (m := "gone") F_Queue_gone hr tk (vq_obj (pv 6))) (va_cons (ve_prop F_TalliedQueue_joined hr (vq_obj (pv 6))) (va_cons (ve_prop F_TalliedQueue_jumps hr (vq_obj (pv 6))) (va_cons (ve_methQ0 (m := "word") F_Queue_word hr tk (vq_obj (pv 6))) va_nil)))))))))
      (vs_cons (vs_asg (i := 9) sc_law.nd rfl (.inl rfl) (VN.toE (vn_lst (va_cons (ve_methQ0 (m := "waiting") F_Queue_waiting hr tk (vq_obj (pv 7))) (va_cons (ve_methQ0 (m := "served") F_Queue_served hr tk (vq_obj (pv 7))) (va_cons (ve_methQ0 (m := "gone") F_Queue_gone hr tk (vq_obj (pv 7))) (va_cons (ve_prop F_TalliedQueue_joined hr (vq_obj (pv 7))) (va_cons (ve_prop F_TalliedQueue_jumps hr (vq_obj (pv 7))) (va_cons (ve_methQ0 (m := "word") F_Queue_word hr tk (vq_obj (pv 7))) va_nil)))))))))
      (vs_cons (vs_if (VWe.pt (vw_or (vt_ne hu (vx_var (pv 8)) (vx_var (pv 9))) (vw_or1 (vt_ne hu (VE.toX (ve_strQ F_Queue_str hr (by rfl) n_str (vq_obj (pv 6)))) (VE.toX (ve_strQ F_Queue_str hr (by rfl) n_str (vq_obj (pv 7))))))))
      (vs_one (vs_ret ve_bl))
      vs_nil)
      (vs_one (vs_if (VWe.pt (vw_and (vt_val (vx_var (pv 3))) (vw_and1 (VWe.pt (vw_or (vt_not (vt_val (VE.toX (ve_cal F_law_plain_right hr tk (by rfl) (va_cons (ve_var (pv 4)) (va_cons ve_int va_nil)))))) (vw_or1 (vt_not (vt_val (VE.toX (ve_cal F_law_plain_right hr tk (by rfl) (va_cons (ve_var (pv 4)) (va_cons ve_int va_nil))))))))))))
      (vs_one (vs_ret ve_bl))
      vs_nil)))))))))))
      (vs_one (vs_ret ve_bl)))
end
end LawP
set_option Elab.async false
set_option linter.all false
set_option maxRecDepth 100000
set_option maxHeartbeats 4000000
namespace LawP
open PySem PySem.Spec PyProof.Rows L2 VL
abbrev sSack : Stmt := topS 23
abbrev sGrab : Stmt := topS 24
theorem scSack : FnScope ["_law_script", "_law_stirred", "_law_cell"] ["_law_script"] (defScope sSack) := ⟨rfl, rfl, rfl, by decide +kernel, rfl, by decide +kernel, by decide +kernel⟩
theorem scGrab : FnScope ["_law_sack_here", "_law_many", "_law_cell"] ["_law_sack_here", "_law_many"] (defScope sGrab) := ⟨rfl, rfl, rfl, by decide +kernel, rfl, by decide +kernel, by decide +kernel⟩
section
variable {P : Program} {w : World} {K : PySem.W.Frag} {mg : Str → Option Value} {base : Heap} {f f2 : Addr} {fd fd2 : FuncData}
theorem ok_grab {k : Nat} (F : Fun K "_law_grab" "_law_grab" sGrab f fd) : FnOk P w K mg base (L2.CX P w) (k + 1) f fd ["_law_sack_here", "_law_many"] spGrab := by
  refine F.okX scGrab (fun vs H Q E h => ?_) (fun cdv A outer s H vs Q E hr h => ?_)
  · obtain ⟨r, l, gs, m, rfl, _⟩ := h
    rfl
  · have hu := hr.units
    refine ⟨_, pss_cons (ps_if (pt_cmpR (op_neP hu) (pe_ix ix_list (pv 0) pe_int (fun _ _ => rfl)) (pe_lst pa_nil) (nomark _))
        (pss_cons (ps_set (i := 2) scGrab.nd rfl (.inl rfl) (pe_bm0 PySem.F.plainAttrs_list PySem.F.slot_list_pop PySem.F.type_list_pop mt_pop (pe_ix ix_list (pv 0) pe_int (fun _ _ => rfl))))
        (pss_cons (ps_if (pt_chain op_ge op_gt (pv 2) (pv 1) pe_int)
          (pss_one (ps_expr (pe_bm PySem.F.plainAttrs_list PySem.F.slot_list_append PySem.F.type_list_append mt_append (pe_ix ix_list (pv 0) pe_int (fun _ _ => rfl)) (pa_cons (pe_op op_fdivB (pv 2) (pv 1)) pa_nil)))) pss_nil)
        (pss_one (ps_ret (pe_op op_mod (pv 2) (pv 1)))))) pss_nil)
      (pss_cons (ps_asg (pe_op op_mod (pe_op op_add (pe_op op_mul (pe_ix ix_list (pv 0) pe_int (fun _ _ => rfl)) pe_int) pe_int) pe_int) (pg_sub (pv 0) pe_int set_list (by intro _; rfl)) (by rfl) (by rfl) (by rfl))
      (pss_one (ps_ret (pe_op op_mod (pe_op op_fdivB (pe_ix ix_list (pv 0) pe_int (fun _ _ => rfl)) pe_int) (pv 1))))), ?_⟩
    obtain ⟨r, l, gs, m, rfl, hb, m0, m1, q⟩ := h
    have nrl := hb.ne
    obtain ⟨x, hr1, hl1, hz1⟩ := hb
    have a0 : ∀ a b : V, atI [a, b] 0 = some a := fun _ _ => rfl
    have a1 : ∀ a b : V, atI [a, b] 1 = some b := fun _ _ => rfl
    refine ⟨.ref r, rfl, r, _, _, .ref l, rfl, rfl, SqL.of hr1, a1 _ _, Nat.zero_le _, fun p hp => ?_⟩
    have pr : r ≠ p := ne_of_none hr1 hp
    have pl : l ≠ p := ne_of_none hl1 hp
    have hr2 : (upd H p (.lst [])) r = some (.lst [.int x, .ref l]) := by rw [upd_ne pr]; exact hr1
    have hl2 : (upd H p (.lst [])) l = some (.lst (gs.map V.int)) := by rw [upd_ne pl]; exact hl1
    have kp2 : KeepJ r l H (upd H p (.lst [])) := KeepJ.refl.upd (.inr (.inr hp))
    refine ⟨.list (gs.map PyData.int), .list [], .lst hl2 not_false (.of_ints _), .lst upd_same not_false .nil, (by simp only [PyData.plain]; exact plain_ints gs), rfl, .inr (by decide), _, rfl, ?_⟩
    generalize upd H p (.lst []) = H2 at hr2 hl2 kp2
    cases gs with
    | cons g gs1 =>
      obtain ⟨z, hz⟩ : ∃ z, (g :: gs1)[(g :: gs1).length - 1]? = some z := ⟨_, List.getElem?_eq_getElem (by simp)⟩
      have hzm : ((g :: gs1).map V.int)[((g :: gs1).map V.int).length - 1]? = some (.int z) := by rw [List.length_map, List.getElem?_map, hz]; rfl
      have edl : ((g :: gs1).map V.int).dropLast = ((g :: gs1).dropLast).map V.int := by rw [List.map_dropLast]
      have hdl : ((g :: gs1).dropLast).length = gs1.length := by simp
      refine ⟨.ref r, rfl, r, _, _, .ref l, rfl, rfl, SqL.of hr2, a1 _ _, .inl ⟨rfl, _, SqL.of hl2⟩, l, _, .int z, rfl, rfl, hl2, hzm, ?_⟩
      rw [edl]
      generalize (g :: gs1).dropLast = gd at hdl
      have hr3 : (upd H2 l (.lst (gd.map V.int))) r = some (.lst [.int x, .ref l]) := by rw [upd_ne nrl]; exact hr2
      have hl3 : (upd H2 l (.lst (gd.map V.int))) l = some (.lst (gd.map V.int)) := upd_same
      have kp3 : KeepJ r l H (upd H2 l (.lst (gd.map V.int))) := kp2.upd (.inr (.inl rfl))
      generalize upd H2 l (.lst (gd.map V.int)) = H3 at hr3 hl3 kp3
      have hz1' : gs1.length + 1 ≤ 63 := hz1
      have last : ∀ H4 gs4, KeepJ r l H H4 → sackAt r l gs4 H4 → ∃ i j, V.int z = .int i ∧ V.int m = .int j ∧ 0 < j ∧ Q (.int (i % j)) H4 := fun H4 gs4 kp4 b4 => ⟨z, m, rfl, rfl, m0, q _ _ _ kp4 b4 (Int.emod_nonneg _ (by omega)) (Int.emod_lt_of_pos _ m0)⟩
      have skip : sackAt r l gd H3 := ⟨x, hr3, hl3, by omega⟩
      refine ⟨.int z, rfl, .int m, rfl, z, m, rfl, rfl, decide (m ≤ z), rfl, ?_⟩
      by_cases c : m ≤ z
      · rw [show decide (m ≤ z) = true from decide_eq_true c]
        refine (iff_of_eq (if_pos rfl)).mpr ?_
        refine ⟨m, 1, rfl, rfl, _, rfl, ite2 (fun c2 => ?_) (fun c2 => ?_)⟩
        · refine ⟨.ref r, rfl, r, _, _, .ref l, rfl, rfl, SqL.of hr3, a1 _ _, .inl ⟨rfl, _, SqL.of hl3⟩, .int z, rfl, .int m, rfl, z, m, rfl, rfl, ⟨by omega, by omega⟩, ?_⟩
          have hl : gd.length < sizeLine := Nat.lt_of_le_of_lt (show gd.length ≤ 63 by omega) (by decide)
          refine ⟨l, _, _, rfl, rfl, hl3, by rw [List.length_map]; exact hl, ?_⟩
          have e4 : gd.map V.int ++ [V.int (z.fdiv m)] = (gd ++ [z.fdiv m]).map V.int := by simp
          dsimp only
          rw [e4]
          have b4 : sackAt r l (gd ++ [z.fdiv m]) (upd H3 l (.lst ((gd ++ [z.fdiv m]).map V.int))) := ⟨x, by rw [upd_ne nrl]; exact hr3, upd_same, by simp; omega⟩
          exact ⟨.int z, rfl, .int m, rfl, last _ _ (kp3.upd (.inr (.inl rfl))) b4⟩
        · exact ⟨.int z, rfl, .int m, rfl, last _ _ kp3 skip⟩
      · rw [show decide (m ≤ z) = false from decide_eq_false c]
        refine (iff_of_eq (if_neg Bool.false_ne_true)).mpr ?_
        refine ⟨_, rfl, (iff_of_eq (if_neg Bool.false_ne_true)).mpr ?_⟩
        exact ⟨.int z, rfl, .int m, rfl, last _ _ kp3 skip⟩
    | nil =>
      refine ⟨.ref r, rfl, r, _, _, .int x, rfl, rfl, SqL.of hr2, a0 _ _, x, 2862933555777941757, rfl, rfl, .inr ⟨by decide, by decide⟩, _, 3037000493, rfl, rfl, _, 18446744073709551616, rfl, rfl, (show (0 : Int) < 18446744073709551616 by decide), ?_⟩
      refine ⟨.ref r, rfl, r, _, 0, 0, rfl, rfl, hr2, rfl, ?_⟩
      dsimp only
      generalize (x * 2862933555777941757 + 3037000493) % 18446744073709551616 = x2
      have kp3 : KeepJ r l H (upd H2 r (.lst [.int x2, .ref l])) := kp2.upd (.inl rfl)
      have hr3 : upd H2 r (.lst [.int x2, .ref l]) r = some (.lst [.int x2, .ref l]) := upd_same
      have hl3 : upd H2 r (.lst [.int x2, .ref l]) l = some (.lst (([] : List Int).map V.int)) := by rw [upd_ne nrl.symm]; exact hl2
      have e3 : ([V.int x, .ref l]).set 0 (.int x2) = [.int x2, .ref l] := rfl
      rw [e3]
      generalize upd H2 r (.lst [.int x2, .ref l]) = H3 at hr3 hl3 kp3
      refine ⟨.ref r, rfl, r, _, _, .int x2, rfl, rfl, SqL.of hr3, a0 _ _, x2, 17179869184, rfl, rfl, ⟨by decide, by decide⟩, .int m, rfl, _, m, rfl, rfl, m0, ?_⟩
      exact q _ [] _ kp3 ⟨x2, hr3, hl3, by simp⟩ (Int.emod_nonneg _ (by omega)) (Int.emod_lt_of_pos _ m0)
theorem ok_sack {k : Nat} (F : Fun K "_law_sack" "_law_sack" sSack f fd) (ml : mg "len" = none) (ma : mg "abs" = none) : FnOk P w K mg base (L2.CX P w) (k + 1) f fd ["_law_script"] (spSack K) := by
  refine F.okX scSack (fun vs H Q E h => ?_) (fun cdv A outer s H vs Q E hr h => ?_)
  · obtain ⟨a, ns, rfl, _⟩ := h
    rfl
  · have hu := hr.units
    refine ⟨_, pss_cons (ps_set (i := 1) scSack.nd rfl (.inl rfl) (pe_op op_add pe_int (pe_op op_mul pe_int (pe_callB call_len_seq (by rfl) ml PySem.boot_len (pa_cons (pv 0) pa_nil)))))
      (pss_cons (ps_for (passes_of rfl) rfl (pi_list (pv 0)) (pg_name (i := 2) scSack.nd rfl (.inl rfl))
        (pss_one (ps_set (i := 1) scSack.nd rfl (.inl rfl) (pe_op op_mod (pe_op op_add (pe_op op_add (pe_op op_mul (pv 1) pe_int) (pe_op op_mod (pe_callB call_abs (by rfl) ma boot_abs (pa_cons (pv 2) pa_nil)) pe_int)) pe_int) pe_int))))
      (pss_one (ps_ret (pe_lst (pa_cons (pv 1) (pa_cons (pe_lc (own := [("_law_cell", 2)]) rfl scSack.nd (pi_list (pv 0)) (blkOk_by (N := ["_law_script", "_law_stirred", "_law_cell"]) (sc := defScope sSack) (by decide +kernel))
        (fun _ _ _ _ _ => pg_name (i := 2) scSack.nd rfl (.inl rfl)) (fun _ _ _ _ _ => pts_one (pt_cmpR op_ge (pv 2) (pe_op op_pow pe_int pe_int) (nomark _))) (fun _ _ _ _ _ => pv 2)) pa_nil)))))), ?_⟩
    obtain ⟨a, ns, rfl, hS, hl, q⟩ := h
    refine ⟨.ref a, rfl, a, _, rfl, .inl hS, 3, _, rfl, rfl, .inl ⟨by decide, by decide⟩, 271828, _, rfl, rfl, ?_⟩
    refine ⟨.ref a, rfl, a, rfl, ⟨_, hS⟩, ?_⟩
    refine for_list (xs := ns.map V.int) (fun i σ H' => ∃ (l : Int) (x4 : Option V), σ = [some (.ref a), some (.int l), x4] ∧ H' = H) ⟨_, none, rfl, rfl⟩ (fun i σ H' _ ⟨_, _, _, e⟩ => by rw [e]; exact hS) (fun i x σ H' hx iv => ?_) (fun σ H' iv => ?_)
    · obtain ⟨l, x4, rfl, rfl⟩ := iv
      rw [List.getElem?_map] at hx
      cases em : ns[i]? with
      | none => rw [em] at hx; cases hx
      | some c =>
        rw [em] at hx
        cases hx
        refine ⟨.int l, rfl, l, 1103515245, rfl, rfl, .inr ⟨by decide, by decide⟩, .int c, rfl, c, rfl, _, 2147483549, rfl, rfl, (show (0 : Int) < 2147483549 by decide), _, _, rfl, rfl, _, 12345, rfl, rfl, _, 2305843009213693907, rfl, rfl, (show (0 : Int) < 2305843009213693907 by decide), ?_⟩
        exact ⟨_, _, rfl, rfl⟩
    · obtain ⟨l, x4, rfl, rfl⟩ := iv
      refine ⟨.int l, rfl, .ref a, rfl, a, rfl, ⟨_, hS⟩, fun D hD => ?_⟩
      have nd : ∀ c o, H' c = some o → c ≠ D := fun c o e z => by rw [z, hD] at e; cases e
      have upS : ∀ H2, (∀ c o, H' c = some o → H2 c = some o) → SqL K H2 a (ns.map V.int) := fun H2 k => hS.imp (fun r => r.imp (k _ _) fun ⟨o, e⟩ => ⟨o, k _ _ e⟩) id
      refine lc_list (xs := ns.map V.int) (fun i H2 => (∀ c o, H' c = some o → H2 c = some o) ∧ H2 D = some (.lst ((bigs (10 ^ 18) (ns.take i)).map V.int))) ?_ (fun i H2 _ h => upS H2 h.1) ?_ ?_
      · exact ⟨fun c o e => by rw [upd_ne (nd c o e)]; exact e, by rw [upd_same]; rfl⟩
      · intro i x H2 hx ⟨k, e3⟩
        rw [List.getElem?_map] at hx
        cases em : ns[i]? with
        | none => rw [em] at hx; cases hx
        | some c =>
          rw [em] at hx
          cases hx
          have e5 : bigs (10 ^ 18) (ns.take (i + 1)) = bigs (10 ^ 18) (ns.take i) ++ bigs (10 ^ 18) [c] := by
            rw [List.take_add_one, em]
            exact List.filter_append ..
          refine ⟨rfl, .int c, rfl, 10, 18, rfl, rfl, ⟨by decide, by decide, by decide⟩, c, _, rfl, rfl, _, rfl, ?_⟩
          by_cases hc : (10 : Int) ^ 18 ≤ c
          · have hd : decide ((10 : Int) ^ ((18 : Int).toNat) ≤ c) = true := decide_eq_true hc
            rw [hd]
            dsimp only
            rw [if_pos rfl]
            refine ⟨.int c, rfl, _, e3, ?_, fun b o e => by rw [upd_ne (nd b o e)]; exact k b o e, ?_⟩
            · rw [List.length_map]
              have h1 : (bigs (10 ^ 18) (ns.take i)).length ≤ (ns.take i).length := List.length_filter_le _ _
              have h2 : (ns.take i).length ≤ 63 := by rw [List.length_take]; omega
              exact Nat.lt_of_le_of_lt (Nat.le_trans h1 h2) (by decide)
            · rw [upd_same, e5]
              have e6 : bigs (10 ^ 18) [c] = [c] := by unfold bigs; rw [List.filter_cons_of_pos (by simpa using hc)]; rfl
              rw [e6, List.map_append]
              rfl
          · have hd : decide ((10 : Int) ^ ((18 : Int).toNat) ≤ c) = false := decide_eq_false hc
            rw [hd]
            dsimp only
            rw [if_neg Bool.false_ne_true]
            refine ⟨k, ?_⟩
            rw [e3, e5]
            have e6 : bigs (10 ^ 18) [c] = [] := by unfold bigs; rw [List.filter_cons_of_neg (by simpa using hc)]; rfl
            rw [e6, List.append_nil]
      · intro H2 ⟨k, e3⟩
        rw [List.length_map, List.take_length] at e3
        refine ⟨Nat.le_trans (show 2 ≤ 1000 by decide) (by decide), fun r hr => ?_⟩
        have hbl : (bigs (10 ^ 18) ns).length ≤ 63 := Nat.le_trans (List.length_filter_le _ _) hl
        exact q r D _ (fun c o e => by rw [upd_ne (ne_of_none (k c o e) hr)]; exact k c o e) ⟨_, l, upd_same, by rw [upd_ne (ne_of_none e3 hr)]; exact e3, hbl⟩
end
end LawP
set_option Elab.async false
set_option linter.all false
set_option maxRecDepth 100000
set_option maxHeartbeats 4000000
namespace LawP
open PySem PySem.Spec PyProof.Rows L2 VL
theorem all_mk {l : PySem.W.OpenLaw} {w : World} {K : PySem.W.Frag} {h : Heap} {mg : Str → Option Value} {fa : Addr} (X : K.In h) (G : h.Ns mainGlobals mg) (hfa : mg "law" = some (.ref fa))
    (d27 : DefK K "_law_arrived" (topS 27)) (d29 : DefK K "_law_first" (topS 29)) (d24 : DefK K "_law_grab" (topS 24)) (d31 : DefK K "_law_edit" (topS 31)) (d26 : DefK K "_law_whole" (topS 26)) (d28 : DefK K "_law_after" (topS 28)) (d32 : DefK K "_law_planned" (topS 32)) (d18 : DefK K "is_whole" (topS 18)) (d30 : DefK K "_law_call" (topS 30)) (d34 : DefK K "_law_performed" (topS 34)) (d33 : DefK K "_law_with_others" (topS 33)) (d35 : DefK K "_law_passes" (topS 35)) (d36 : DefK K "_law_plain_right" (topS 36)) (d23 : DefK K "_law_sack" (topS 23)) (d37 : DefK K "law" (topS 37))
    {t0 : Tok} (m0 : PySem.W.nsIn K mainGlobals "MAX_GROUP" = some (some (.int 1000000000 t0))) {t1 : Tok} (m1 : PySem.W.nsIn K mainGlobals "ARRIVE" = some (some (.str "arrive" t1))) {t2 : Tok} (m2 : PySem.W.nsIn K mainGlobals "MAX_PEOPLE" = some (some (.int 40 t2))) {t3 : Tok} (m3 : PySem.W.nsIn K mainGlobals "SERVE" = some (some (.str "serve" t3))) {t4 : Tok} (m4 : PySem.W.nsIn K mainGlobals "GO_AWAY" = some (some (.str "go_away" t4)))
    (z_max : PySem.W.nsIn K mainGlobals "max" = some none) (z_range : PySem.W.nsIn K mainGlobals "range" = some none) (z_len : PySem.W.nsIn K mainGlobals "len" = some none) (z_isinstance : PySem.W.nsIn K mainGlobals "isinstance" = some none) (z_bool : PySem.W.nsIn K mainGlobals "bool" = some none) (z_int : PySem.W.nsIn K mainGlobals "int" = some none) (z_tuple : PySem.W.nsIn K mainGlobals "tuple" = some none) (z_enumerate : PySem.W.nsIn K mainGlobals "enumerate" = some none) (z_sum : PySem.W.nsIn K mainGlobals "sum" = some none) (z_super : PySem.W.nsIn K mainGlobals "super" = some none) (z_list : PySem.W.nsIn K mainGlobals "list" = some none) (z_sorted : PySem.W.nsIn K mainGlobals "sorted" = some none) (z_str : PySem.W.nsIn K mainGlobals "str" = some none) (z_abs : PySem.W.nsIn K mainGlobals "abs" = some none) (R_TooLarge : Rai1 K "TooLarge" "TooLarge.__init__" "limit" s_TooLarge) (R_NoGroup : Rai1 K "NoGroup" "NoGroup.__init__" "value" s_NoGroup) (R_Busy : Rai0 K "Busy") (R_NoPerson : Rai1 K "NoPerson" "NoPerson.__init__" "value" s_NoPerson) (R_Absent : Rai1 K "Absent" "Absent.__init__" "person" s_Absent) (R_Empty : Rai0 K "Empty") (R_TooManyEdits : Rai0 K "TooManyEdits") (R_NoVersion : Rai1 K "NoVersion" "NoVersion.__init__" "version" s_NoVersion) (R_NoIndex : Rai1 K "NoIndex" "NoIndex.__init__" "index" s_NoIndex) (KL_Scene : ClsK K "Scene" "Scene.__init__" s_Scene_init) (KL_Queue : ClsK K "Queue" "Queue.__init__" s_Queue_init) (KL_TalliedQueue : ClsK K "TalliedQueue" "Queue.__init__" s_Queue_init) (KQ_Queue_scenes : NoAtK K "Queue" "scenes") (KQ_Queue_kept : NoAtK K "Queue" "kept") (KQ_Queue_is_busy : NoAtK K "Queue" "is_busy") (KV_Queue : ConK K "Queue" "LIMIT" (.int 60)) (KM_Queue_require_idle_Queue : MethK K "Queue" "require_idle" "Queue.require_idle" s_Queue_require_idle) (KM_Queue_is_group_Queue : StatK K "Queue" "is_group" "Queue.is_group" s_Queue_is_group) (KM_Queue_people_Queue : PropK K "Queue" "people" "Queue.people" s_Queue_people) (KM_Queue_length_Queue : PropK K "Queue" "length" "Queue.length" s_Queue_length) (KM_Queue_require_waiting_Queue : MethK K "Queue" "require_waiting" "Queue.require_waiting" s_Queue_require_waiting) (KM_Queue_scene_after_Queue : MethK K "Queue" "scene_after" "Queue.scene_after" s_Queue_scene_after) (KM_Queue_perform_Queue : MethK K "Queue" "perform" "Queue.perform" s_Queue_perform) (KM_Queue_arrive_Queue : MethK K "Queue" "arrive" "Queue.arrive" s_Queue_arrive) (KM_Queue_serve_Queue : MethK K "Queue" "serve" "Queue.serve" s_Queue_serve) (KM_Queue_go_away_Queue : MethK K "Queue" "go_away" "Queue.go_away" s_Queue_go_away) (KM_Queue_scene_at_Queue : MethK K "Queue" "scene_at" "Queue.scene_at" s_Queue_scene_at) (KM_Queue_served_Queue : MethWK K "Queue" "served" "Queue.served" s_Queue_served "version" .non) (KM_Queue_waiting_Queue : MethWK K "Queue" "waiting" "Queue.waiting" s_Queue_waiting "version" .non) (KM_Queue_gone_Queue : MethWK K "Queue" "gone" "Queue.gone" s_Queue_gone "version" .non) (KM_Queue_word_Queue : MethK K "Queue" "word" "Queue.word" s_Queue_word) (KM_Queue_told_Queue : MethK K "Queue" "told" "Queue.told" s_Queue_told) (KM_Queue_str_Queue : MethK K "Queue" "__str__" "Queue.__str__" s_Queue_str) (KQ_TalliedQueue_scenes : NoAtK K "TalliedQueue" "scenes") (KQ_TalliedQueue_kept : NoAtK K "TalliedQueue" "kept") (KQ_TalliedQueue_is_busy : NoAtK K "TalliedQueue" "is_busy") (KV_TalliedQueue : ConK K "TalliedQueue" "LIMIT" (.int 60)) (KM_Queue_require_idle_TalliedQueue : MethK K "TalliedQueue" "require_idle" "Queue.require_idle" s_Queue_require_idle) (KM_Queue_is_group_TalliedQueue : StatK K "TalliedQueue" "is_group" "Queue.is_group" s_Queue_is_group) (KM_Queue_people_TalliedQueue : PropK K "TalliedQueue" "people" "Queue.people" s_Queue_people) (KM_Queue_length_TalliedQueue : PropK K "TalliedQueue" "length" "Queue.length" s_Queue_length) (KM_Queue_require_waiting_TalliedQueue : MethK K "TalliedQueue" "require_waiting" "Queue.require_waiting" s_Queue_require_waiting) (KM_Queue_scene_after_TalliedQueue : MethK K "TalliedQueue" "scene_after" "Queue.scene_after" s_Queue_scene_after) (KM_Queue_perform_TalliedQueue : MethK K "TalliedQueue" "perform" "Queue.perform" s_Queue_perform) (KM_Queue_arrive_TalliedQueue : MethK K "TalliedQueue" "arrive" "Queue.arrive" s_Queue_arrive) (KM_Queue_serve_TalliedQueue : MethK K "TalliedQueue" "serve" "Queue.serve" s_Queue_serve) (KM_Queue_go_away_TalliedQueue : MethK K "TalliedQueue" "go_away" "Queue.go_away" s_Queue_go_away) (KM_TalliedQueue_jumps_TalliedQueue : PropK K "TalliedQueue" "jumps" "TalliedQueue.jumps" s_TalliedQueue_jumps) (KM_Queue_scene_at_TalliedQueue : MethK K "TalliedQueue" "scene_at" "Queue.scene_at" s_Queue_scene_at) (KM_Queue_served_TalliedQueue : MethWK K "TalliedQueue" "served" "Queue.served" s_Queue_served "version" .non) (KM_Queue_waiting_TalliedQueue : MethWK K "TalliedQueue" "waiting" "Queue.waiting" s_Queue_waiting "version" .non) (KM_TalliedQueue_joined_TalliedQueue : PropK K "TalliedQueue" "joined" "TalliedQueue.joined" s_TalliedQueue_joined) (KM_Queue_gone_TalliedQueue : MethWK K "TalliedQueue" "gone" "Queue.gone" s_Queue_gone "version" .non) (KM_Queue_word_TalliedQueue : MethK K "TalliedQueue" "word" "Queue.word" s_Queue_word) (KM_SUP : SupK l.prog K "TalliedQueue" "told" "TalliedQueue.told" "Queue.told" s_TalliedQueue_told s_Queue_told) (KM_Queue_str_TalliedQueue : MethK K "TalliedQueue" "__str__" "Queue.__str__" s_Queue_str) (KN_Scene_groups : NoAtK K "Scene" "groups") (KN_Scene_line : NoAtK K "Scene" "line") (KN_Scene_done : NoAtK K "Scene" "done") (KN_Scene_left : NoAtK K "Scene" "left") (KN_Scene_mated : NoAtK K "Scene" "mated") (KN_Scene_passed : NoAtK K "Scene" "passed") (KN_Scene_letters : NoAtK K "Scene" "letters") (KM_Scene_with_one : MethK K "Scene" "with_one" "Scene.with_one" s_Scene_with_one) (KM_Scene_with_service : MethK K "Scene" "with_service" "Scene.with_service" s_Scene_with_service) (KM_Scene_without_one : MethK K "Scene" "without_one" "Scene.without_one" s_Scene_without_one) :
    ∃ fd : FuncData, (∀ (s : Shared) (v : Value), BindsTo s fd ⟨[v], []⟩ [("_law_script", v)]) ∧ ∀ base : Heap, K.In base → base.Ns mainGlobals mg → FnG l.prog w K mg base 10 fa fd ["_law_script"] (spLaw K) := by
  obtain ⟨f37, oc, kV, doc, pm, cdv, ct, od, an, osl, a, ql, qc, qp⟩ := d37.ex
  have e := hfa.symm.trans (PySem.W.mg_of X G a)
  cases e
  have y_max := PySem.W.mg_none_of X G z_max
  have y_range := PySem.W.mg_none_of X G z_range
  have y_len := PySem.W.mg_none_of X G z_len
  have y_isinstance := PySem.W.mg_none_of X G z_isinstance
  have y_bool := PySem.W.mg_none_of X G z_bool
  have y_int := PySem.W.mg_none_of X G z_int
  have y_tuple := PySem.W.mg_none_of X G z_tuple
  have y_enumerate := PySem.W.mg_none_of X G z_enumerate
  have y_sum := PySem.W.mg_none_of X G z_sum
  have y_super := PySem.W.mg_none_of X G z_super
  have y_list := PySem.W.mg_none_of X G z_list
  have y_sorted := PySem.W.mg_none_of X G z_sorted
  have y_str := PySem.W.mg_none_of X G z_str
  have y_abs := PySem.W.mg_none_of X G z_abs
  have c0 := PySem.W.mg_of X G m0
  have c1 := PySem.W.mg_of X G m1
  have c2 := PySem.W.mg_of X G m2
  have c3 := PySem.W.mg_of X G m3
  have c4 := PySem.W.mg_of X G m4
  obtain ⟨f27, v27, F27, g27, p27, e27⟩ := d27.use X G
  have B27 := F27.binds (ps := ["_law_now", "_law_kin"]) fun _ _ _ _ _ _ us hl => match us, hl with | [_, _], _ => rfl
  obtain ⟨f29, v29, F29, g29, p29, e29⟩ := d29.use X G
  have B29 := F29.binds (ps := ["_law_groups_here"]) fun _ _ _ _ _ _ us hl => match us, hl with | [_], _ => rfl
  obtain ⟨f24, v24, F24, g24, p24, e24⟩ := d24.use X G
  have B24 := F24.binds (ps := ["_law_sack_here", "_law_many"]) fun _ _ _ _ _ _ us hl => match us, hl with | [_, _], _ => rfl
  obtain ⟨f31, v31, F31, g31, p31, e31⟩ := d31.use X G
  have B31 := F31.binds (ps := ["_law_sack_here", "_law_now"]) fun _ _ _ _ _ _ us hl => match us, hl with | [_, _], _ => rfl
  obtain ⟨f26, v26, F26, g26, p26, e26⟩ := d26.use X G
  have B26 := F26.binds (ps := ["_law_value", "_law_low", "_law_high"]) fun _ _ _ _ _ _ us hl => match us, hl with | [_, _, _], _ => rfl
  obtain ⟨f28, v28, F28, g28, p28, e28⟩ := d28.use X G
  have B28 := F28.binds (ps := ["_law_now", "_law_edit_here"]) fun _ _ _ _ _ _ us hl => match us, hl with | [_, _], _ => rfl
  obtain ⟨f32, v32, F32, g32, p32, e32⟩ := d32.use X G
  have B32 := F32.binds (ps := ["_law_sack_here", "_law_count", "_law_is_staying"]) fun _ _ _ _ _ _ us hl => match us, hl with | [_, _, _], _ => rfl
  obtain ⟨f18, v18, F18, g18, p18, e18⟩ := d18.use X G
  have B18 := F18.binds (ps := ["value", "low", "high"]) fun _ _ _ _ _ _ us hl => match us, hl with | [_, _, _], _ => rfl
  obtain ⟨f30, v30, F30, g30, p30, e30⟩ := d30.use X G
  have B30 := F30.binds (ps := ["_law_queue", "_law_edit_here"]) fun _ _ _ _ _ _ us hl => match us, hl with | [_, _], _ => rfl
  obtain ⟨f34, v34, F34, g34, p34, e34⟩ := d34.use X G
  have B34 := F34.binds (ps := ["_law_edits"]) fun _ _ _ _ _ _ us hl => match us, hl with | [_], _ => rfl
  obtain ⟨f33, v33, F33, g33, p33, e33⟩ := d33.use X G
  have B33 := F33.binds (ps := ["_law_edits", "_law_kind"]) fun _ _ _ _ _ _ us hl => match us, hl with | [_, _], _ => rfl
  obtain ⟨f35, v35, F35, g35, p35, e35⟩ := d35.use X G
  have B35 := F35.binds (ps := ["_law_order"]) fun _ _ _ _ _ _ us hl => match us, hl with | [_], _ => rfl
  obtain ⟨f36, v36, F36, g36, p36, e36⟩ := d36.use X G
  have B36 := F36.binds (ps := ["_law_edits", "_law_kind"]) fun _ _ _ _ _ _ us hl => match us, hl with | [_, _], _ => rfl
  obtain ⟨f23, v23, F23, g23, p23, e23⟩ := d23.use X G
  have B23 := F23.binds (ps := ["_law_script"]) fun _ _ _ _ _ _ us hl => match us, hl with | [_], _ => rfl
  obtain ⟨C_TooLarge, R_TooLarge⟩ := R_TooLarge.ex
  obtain ⟨C_NoGroup, R_NoGroup⟩ := R_NoGroup.ex
  obtain ⟨C_Busy, R_Busy⟩ := R_Busy.ex
  obtain ⟨C_NoPerson, R_NoPerson⟩ := R_NoPerson.ex
  obtain ⟨C_Absent, R_Absent⟩ := R_Absent.ex
  obtain ⟨C_Empty, R_Empty⟩ := R_Empty.ex
  obtain ⟨C_TooManyEdits, R_TooManyEdits⟩ := R_TooManyEdits.ex
  obtain ⟨C_NoVersion, R_NoVersion⟩ := R_NoVersion.ex
  obtain ⟨C_NoIndex, R_NoIndex⟩ := R_NoIndex.ex
  obtain ⟨C_Scene, KC_Scene⟩ := KL_Scene.ex
  obtain ⟨C_Queue, KC_Queue⟩ := KL_Queue.ex
  obtain ⟨C_TalliedQueue, KC_TalliedQueue⟩ := KL_TalliedQueue.ex
  have k_TooLarge : (clsOf [("TooLarge", C_TooLarge), ("NoGroup", C_NoGroup), ("Busy", C_Busy), ("NoPerson", C_NoPerson), ("Absent", C_Absent), ("Empty", C_Empty), ("TooManyEdits", C_TooManyEdits), ("NoVersion", C_NoVersion), ("NoIndex", C_NoIndex), ("Scene", C_Scene), ("Queue", C_Queue), ("TalliedQueue", C_TalliedQueue)] fa) "TooLarge" = C_TooLarge := clsOf_hd
  have k_NoGroup : (clsOf [("TooLarge", C_TooLarge), ("NoGroup", C_NoGroup), ("Busy", C_Busy), ("NoPerson", C_NoPerson), ("Absent", C_Absent), ("Empty", C_Empty), ("TooManyEdits", C_TooManyEdits), ("NoVersion", C_NoVersion), ("NoIndex", C_NoIndex), ("Scene", C_Scene), ("Queue", C_Queue), ("TalliedQueue", C_TalliedQueue)] fa) "NoGroup" = C_NoGroup := (clsOf_tl (by decide +kernel)).trans (clsOf_hd)
  have k_Busy : (clsOf [("TooLarge", C_TooLarge), ("NoGroup", C_NoGroup), ("Busy", C_Busy), ("NoPerson", C_NoPerson), ("Absent", C_Absent), ("Empty", C_Empty), ("TooManyEdits", C_TooManyEdits), ("NoVersion", C_NoVersion), ("NoIndex", C_NoIndex), ("Scene", C_Scene), ("Queue", C_Queue), ("TalliedQueue", C_TalliedQueue)] fa) "Busy" = C_Busy := (clsOf_tl (by decide +kernel)).trans ((clsOf_tl (by decide +kernel)).trans (clsOf_hd))
  have k_NoPerson : (clsOf [("TooLarge", C_TooLarge), ("NoGroup", C_NoGroup), ("Busy", C_Busy), ("NoPerson", C_NoPerson), ("Absent", C_Absent), ("Empty", C_Empty), ("TooManyEdits", C_TooManyEdits), ("NoVersion", C_NoVersion), ("NoIndex", C_NoIndex), ("Scene", C_Scene), ("Queue", C_Queue), ("TalliedQueue", C_TalliedQueue)] fa) "NoPerson" = C_NoPerson := (clsOf_tl (by decide +kernel)).trans ((clsOf_tl (by decide +kernel)).trans ((clsOf_tl (by decide +kernel)).trans (clsOf_hd)))
  have k_Absent : (clsOf [("TooLarge", C_TooLarge), ("NoGroup", C_NoGroup), ("Busy", C_Busy), ("NoPerson", C_NoPerson), ("Absent", C_Absent), ("Empty", C_Empty), ("TooManyEdits", C_TooManyEdits), ("NoVersion", C_NoVersion), ("NoIndex", C_NoIndex), ("Scene", C_Scene), ("Queue", C_Queue), ("TalliedQueue", C_TalliedQueue)] fa) "Absent" = C_Absent := (clsOf_tl (by decide +kernel)).trans ((clsOf_tl (by decide +kernel)).trans ((clsOf_tl (by decide +kernel)).trans ((clsOf_tl (by decide +kernel)).trans (clsOf_hd))))
  have k_Empty : (clsOf [("TooLarge", C_TooLarge), ("NoGroup", C_NoGroup), ("Busy", C_Busy), ("NoPerson", C_NoPerson), ("Absent", C_Absent), ("Empty", C_Empty), ("TooManyEdits", C_TooManyEdits), ("NoVersion", C_NoVersion), ("NoIndex", C_NoIndex), ("Scene", C_Scene), ("Queue", C_Queue), ("TalliedQueue", C_TalliedQueue)] fa) "Empty" = C_Empty := (clsOf_tl (by decide +kernel)).trans ((clsOf_tl (by decide +kernel)).trans ((clsOf_tl (by decide +kernel)).trans ((clsOf_tl (by decide +kernel)).trans ((clsOf_tl (by decide +kernel)).trans (clsOf_hd)))))
  have k_TooManyEdits : (clsOf [("TooLarge", C_TooLarge), ("NoGroup", C_NoGroup), ("Busy", C_Busy), ("NoPerson", C_NoPerson), ("Absent", C_Absent), ("Empty", C_Empty), ("TooManyEdits", C_TooManyEdits), ("NoVersion", C_NoVersion), ("NoIndex", C_NoIndex), ("Scene", C_Scene), ("Queue", C_Queue), ("TalliedQueue", C_TalliedQueue)] fa) "TooManyEdits" = C_TooManyEdits := (clsOf_tl (by decide +kernel)).trans ((clsOf_tl (by decide +kernel)).trans ((clsOf_tl (by decide +kernel)).trans ((clsOf_tl (by decide +kernel)).trans ((clsOf_tl (by decide +kernel)).trans ((clsOf_tl (by decide +kernel)).trans (clsOf_hd))))))
  have k_NoVersion : (clsOf [("TooLarge", C_TooLarge), ("NoGroup", C_NoGroup), ("Busy", C_Busy), ("NoPerson", C_NoPerson), ("Absent", C_Absent), ("Empty", C_Empty), ("TooManyEdits", C_TooManyEdits), ("NoVersion", C_NoVersion), ("NoIndex", C_NoIndex), ("Scene", C_Scene), ("Queue", C_Queue), ("TalliedQueue", C_TalliedQueue)] fa) "NoVersion" = C_NoVersion := (clsOf_tl (by decide +kernel)).trans ((clsOf_tl (by decide +kernel)).trans ((clsOf_tl (by decide +kernel)).trans ((clsOf_tl (by decide +kernel)).trans ((clsOf_tl (by decide +kernel)).trans ((clsOf_tl (by decide +kernel)).trans ((clsOf_tl (by decide +kernel)).trans (clsOf_hd)))))))
  have k_NoIndex : (clsOf [("TooLarge", C_TooLarge), ("NoGroup", C_NoGroup), ("Busy", C_Busy), ("NoPerson", C_NoPerson), ("Absent", C_Absent), ("Empty", C_Empty), ("TooManyEdits", C_TooManyEdits), ("NoVersion", C_NoVersion), ("NoIndex", C_NoIndex), ("Scene", C_Scene), ("Queue", C_Queue), ("TalliedQueue", C_TalliedQueue)] fa) "NoIndex" = C_NoIndex := (clsOf_tl (by decide +kernel)).trans ((clsOf_tl (by decide +kernel)).trans ((clsOf_tl (by decide +kernel)).trans ((clsOf_tl (by decide +kernel)).trans ((clsOf_tl (by decide +kernel)).trans ((clsOf_tl (by decide +kernel)).trans ((clsOf_tl (by decide +kernel)).trans ((clsOf_tl (by decide +kernel)).trans (clsOf_hd))))))))
  have k_Scene : (clsOf [("TooLarge", C_TooLarge), ("NoGroup", C_NoGroup), ("Busy", C_Busy), ("NoPerson", C_NoPerson), ("Absent", C_Absent), ("Empty", C_Empty), ("TooManyEdits", C_TooManyEdits), ("NoVersion", C_NoVersion), ("NoIndex", C_NoIndex), ("Scene", C_Scene), ("Queue", C_Queue), ("TalliedQueue", C_TalliedQueue)] fa) "Scene" = C_Scene := (clsOf_tl (by decide +kernel)).trans ((clsOf_tl (by decide +kernel)).trans ((clsOf_tl (by decide +kernel)).trans ((clsOf_tl (by decide +kernel)).trans ((clsOf_tl (by decide +kernel)).trans ((clsOf_tl (by decide +kernel)).trans ((clsOf_tl (by decide +kernel)).trans ((clsOf_tl (by decide +kernel)).trans ((clsOf_tl (by decide +kernel)).trans (clsOf_hd)))))))))
  have k_Queue : (clsOf [("TooLarge", C_TooLarge), ("NoGroup", C_NoGroup), ("Busy", C_Busy), ("NoPerson", C_NoPerson), ("Absent", C_Absent), ("Empty", C_Empty), ("TooManyEdits", C_TooManyEdits), ("NoVersion", C_NoVersion), ("NoIndex", C_NoIndex), ("Scene", C_Scene), ("Queue", C_Queue), ("TalliedQueue", C_TalliedQueue)] fa) "Queue" = C_Queue := (clsOf_tl (by decide +kernel)).trans ((clsOf_tl (by decide +kernel)).trans ((clsOf_tl (by decide +kernel)).trans ((clsOf_tl (by decide +kernel)).trans ((clsOf_tl (by decide +kernel)).trans ((clsOf_tl (by decide +kernel)).trans ((clsOf_tl (by decide +kernel)).trans ((clsOf_tl (by decide +kernel)).trans ((clsOf_tl (by decide +kernel)).trans ((clsOf_tl (by decide +kernel)).trans (clsOf_hd))))))))))
  have k_TalliedQueue : (clsOf [("TooLarge", C_TooLarge), ("NoGroup", C_NoGroup), ("Busy", C_Busy), ("NoPerson", C_NoPerson), ("Absent", C_Absent), ("Empty", C_Empty), ("TooManyEdits", C_TooManyEdits), ("NoVersion", C_NoVersion), ("NoIndex", C_NoIndex), ("Scene", C_Scene), ("Queue", C_Queue), ("TalliedQueue", C_TalliedQueue)] fa) "TalliedQueue" = C_TalliedQueue := (clsOf_tl (by decide +kernel)).trans ((clsOf_tl (by decide +kernel)).trans ((clsOf_tl (by decide +kernel)).trans ((clsOf_tl (by decide +kernel)).trans ((clsOf_tl (by decide +kernel)).trans ((clsOf_tl (by decide +kernel)).trans ((clsOf_tl (by decide +kernel)).trans ((clsOf_tl (by decide +kernel)).trans ((clsOf_tl (by decide +kernel)).trans ((clsOf_tl (by decide +kernel)).trans ((clsOf_tl (by decide +kernel)).trans (clsOf_hd)))))))))))
  refine ⟨PySem.W.fnOf "law" "law" (defArgs (topS 37)) (defBody (topS 37)) (defScope (topS 37)) .none kV doc pm an cdv ct, fun s v => .of_eq rfl, fun base _ _ => ?_⟩
  have O24 : FnOk l.prog w K mg base (L2.CX l.prog w) 1 f24 v24 ["_law_sack_here", "_law_many"] spGrab := ok_grab F24
  have O23 : FnOk l.prog w K mg base (L2.CX l.prog w) 1 f23 v23 ["_law_script"] (spSack K) := ok_sack (k := 0) F23 y_len y_abs
  refine lawX (fun x : Addr × Addr => sackB (clsOf [("TooLarge", C_TooLarge), ("NoGroup", C_NoGroup), ("Busy", C_Busy), ("NoPerson", C_NoPerson), ("Absent", C_Absent), ("Empty", C_Empty), ("TooManyEdits", C_TooManyEdits), ("NoVersion", C_NoVersion), ("NoIndex", C_NoIndex), ("Scene", C_Scene), ("Queue", C_Queue), ("TalliedQueue", C_TalliedQueue)] fa) x.1 x.2) (fun x => x.1) (fun a ns H Q E h1 h2 h3 => ⟨a, ns, rfl, h1, h2, fun r l H2 _ hg => h3 (r, l) H2 hg⟩) (i := 1) (k := 9) (t := fun x => t_law (S_law_planned x.1) (svTake x.1) S_law_performed S_law_with_others S_TalliedQueue_jumps S_law_passes S_Queue_served S_Queue_waiting S_TalliedQueue_joined S_Queue_gone S_Queue_word S_strT S_law_plain_right) (fun_mk (st := topS 37) ql qc qp) sc_law rfl O23 g23 p23 B23 (by omega) (by decide) rfl rfl (by first | exact .inl rfl | exact .inr rfl) rfl rfl (fun ⟨r, l1⟩ cdv A outer s H E hr hgd tk => ?_) (fun x => l_law x.1)
  have RI_TooLarge : RaiI K ((sackB (clsOf [("TooLarge", C_TooLarge), ("NoGroup", C_NoGroup), ("Busy", C_Busy), ("NoPerson", C_NoPerson), ("Absent", C_Absent), ("Empty", C_Empty), ("TooManyEdits", C_TooManyEdits), ("NoVersion", C_NoVersion), ("NoIndex", C_NoIndex), ("Scene", C_Scene), ("Queue", C_Queue), ("TalliedQueue", C_TalliedQueue)] fa) r l1).cls "TooLarge") "TooLarge" "TooLarge.__init__" "limit" s_TooLarge := by
    show RaiI K ((clsOf [("TooLarge", C_TooLarge), ("NoGroup", C_NoGroup), ("Busy", C_Busy), ("NoPerson", C_NoPerson), ("Absent", C_Absent), ("Empty", C_Empty), ("TooManyEdits", C_TooManyEdits), ("NoVersion", C_NoVersion), ("NoIndex", C_NoIndex), ("Scene", C_Scene), ("Queue", C_Queue), ("TalliedQueue", C_TalliedQueue)] fa) "TooLarge") _ _ _ _
    rw [k_TooLarge]; exact R_TooLarge
  have RB_TooLarge := RI_TooLarge.b
  obtain ⟨M_TooLarge⟩ := RI_TooLarge.mk1 (P := l.prog) (w := w) (base := base) (prm := "limit") X G (fun fa fd F => wi_TooLarge F) (fun _ _ _ _ _ _ us hl => match us, hl with | [_, _], _ => rfl)
  have RI_NoGroup : RaiI K ((sackB (clsOf [("TooLarge", C_TooLarge), ("NoGroup", C_NoGroup), ("Busy", C_Busy), ("NoPerson", C_NoPerson), ("Absent", C_Absent), ("Empty", C_Empty), ("TooManyEdits", C_TooManyEdits), ("NoVersion", C_NoVersion), ("NoIndex", C_NoIndex), ("Scene", C_Scene), ("Queue", C_Queue), ("TalliedQueue", C_TalliedQueue)] fa) r l1).cls "NoGroup") "NoGroup" "NoGroup.__init__" "value" s_NoGroup := by
    show RaiI K ((clsOf [("TooLarge", C_TooLarge), ("NoGroup", C_NoGroup), ("Busy", C_Busy), ("NoPerson", C_NoPerson), ("Absent", C_Absent), ("Empty", C_Empty), ("TooManyEdits", C_TooManyEdits), ("NoVersion", C_NoVersion), ("NoIndex", C_NoIndex), ("Scene", C_Scene), ("Queue", C_Queue), ("TalliedQueue", C_TalliedQueue)] fa) "NoGroup") _ _ _ _
    rw [k_NoGroup]; exact R_NoGroup
  have RB_NoGroup := RI_NoGroup.b
  obtain ⟨M_NoGroup⟩ := RI_NoGroup.mk1 (P := l.prog) (w := w) (base := base) (prm := "value") X G (fun fa fd F => wi_NoGroup F) (fun _ _ _ _ _ _ us hl => match us, hl with | [_, _], _ => rfl)
  have RZ_Busy : RaiB K ((sackB (clsOf [("TooLarge", C_TooLarge), ("NoGroup", C_NoGroup), ("Busy", C_Busy), ("NoPerson", C_NoPerson), ("Absent", C_Absent), ("Empty", C_Empty), ("TooManyEdits", C_TooManyEdits), ("NoVersion", C_NoVersion), ("NoIndex", C_NoIndex), ("Scene", C_Scene), ("Queue", C_Queue), ("TalliedQueue", C_TalliedQueue)] fa) r l1).cls "Busy") "Busy" ∧ PySem.W.excIn K ((sackB (clsOf [("TooLarge", C_TooLarge), ("NoGroup", C_NoGroup), ("Busy", C_Busy), ("NoPerson", C_NoPerson), ("Absent", C_Absent), ("Empty", C_Empty), ("TooManyEdits", C_TooManyEdits), ("NoVersion", C_NoVersion), ("NoIndex", C_NoIndex), ("Scene", C_Scene), ("Queue", C_Queue), ("TalliedQueue", C_TalliedQueue)] fa) r l1).cls "Busy") veB "ValueError.__new__" = true := by
    show RaiB K ((clsOf [("TooLarge", C_TooLarge), ("NoGroup", C_NoGroup), ("Busy", C_Busy), ("NoPerson", C_NoPerson), ("Absent", C_Absent), ("Empty", C_Empty), ("TooManyEdits", C_TooManyEdits), ("NoVersion", C_NoVersion), ("NoIndex", C_NoIndex), ("Scene", C_Scene), ("Queue", C_Queue), ("TalliedQueue", C_TalliedQueue)] fa) "Busy") _ ∧ PySem.W.excIn K ((clsOf [("TooLarge", C_TooLarge), ("NoGroup", C_NoGroup), ("Busy", C_Busy), ("NoPerson", C_NoPerson), ("Absent", C_Absent), ("Empty", C_Empty), ("TooManyEdits", C_TooManyEdits), ("NoVersion", C_NoVersion), ("NoIndex", C_NoIndex), ("Scene", C_Scene), ("Queue", C_Queue), ("TalliedQueue", C_TalliedQueue)] fa) "Busy") _ _ = true
    rw [k_Busy]; exact R_Busy
  have RB_Busy := RZ_Busy.1
  have M_Busy := RB_Busy.mk0 RZ_Busy.2 X G
  have RI_NoPerson : RaiI K ((sackB (clsOf [("TooLarge", C_TooLarge), ("NoGroup", C_NoGroup), ("Busy", C_Busy), ("NoPerson", C_NoPerson), ("Absent", C_Absent), ("Empty", C_Empty), ("TooManyEdits", C_TooManyEdits), ("NoVersion", C_NoVersion), ("NoIndex", C_NoIndex), ("Scene", C_Scene), ("Queue", C_Queue), ("TalliedQueue", C_TalliedQueue)] fa) r l1).cls "NoPerson") "NoPerson" "NoPerson.__init__" "value" s_NoPerson := by
    show RaiI K ((clsOf [("TooLarge", C_TooLarge), ("NoGroup", C_NoGroup), ("Busy", C_Busy), ("NoPerson", C_NoPerson), ("Absent", C_Absent), ("Empty", C_Empty), ("TooManyEdits", C_TooManyEdits), ("NoVersion", C_NoVersion), ("NoIndex", C_NoIndex), ("Scene", C_Scene), ("Queue", C_Queue), ("TalliedQueue", C_TalliedQueue)] fa) "NoPerson") _ _ _ _
    rw [k_NoPerson]; exact R_NoPerson
  have RB_NoPerson := RI_NoPerson.b
  obtain ⟨M_NoPerson⟩ := RI_NoPerson.mk1 (P := l.prog) (w := w) (base := base) (prm := "value") X G (fun fa fd F => wi_NoPerson F) (fun _ _ _ _ _ _ us hl => match us, hl with | [_, _], _ => rfl)
  have RI_Absent : RaiI K ((sackB (clsOf [("TooLarge", C_TooLarge), ("NoGroup", C_NoGroup), ("Busy", C_Busy), ("NoPerson", C_NoPerson), ("Absent", C_Absent), ("Empty", C_Empty), ("TooManyEdits", C_TooManyEdits), ("NoVersion", C_NoVersion), ("NoIndex", C_NoIndex), ("Scene", C_Scene), ("Queue", C_Queue), ("TalliedQueue", C_TalliedQueue)] fa) r l1).cls "Absent") "Absent" "Absent.__init__" "person" s_Absent := by
    show RaiI K ((clsOf [("TooLarge", C_TooLarge), ("NoGroup", C_NoGroup), ("Busy", C_Busy), ("NoPerson", C_NoPerson), ("Absent", C_Absent), ("Empty", C_Empty), ("TooManyEdits", C_TooManyEdits), ("NoVersion", C_NoVersion), ("NoIndex", C_NoIndex), ("Scene", C_Scene), ("Queue", C_Queue), ("TalliedQueue", C_TalliedQueue)] fa) "Absent") _ _ _ _
    rw [k_Absent]; exact R_Absent
  have RB_Absent := RI_Absent.b
  obtain ⟨M_Absent⟩ := RI_Absent.mk1 (P := l.prog) (w := w) (base := base) (prm := "person") X G (fun fa fd F => wi_Absent F) (fun _ _ _ _ _ _ us hl => match us, hl with | [_, _], _ => rfl)
  have RZ_Empty : RaiB K ((sackB (clsOf [("TooLarge", C_TooLarge), ("NoGroup", C_NoGroup), ("Busy", C_Busy), ("NoPerson", C_NoPerson), ("Absent", C_Absent), ("Empty", C_Empty), ("TooManyEdits", C_TooManyEdits), ("NoVersion", C_NoVersion), ("NoIndex", C_NoIndex), ("Scene", C_Scene), ("Queue", C_Queue), ("TalliedQueue", C_TalliedQueue)] fa) r l1).cls "Empty") "Empty" ∧ PySem.W.excIn K ((sackB (clsOf [("TooLarge", C_TooLarge), ("NoGroup", C_NoGroup), ("Busy", C_Busy), ("NoPerson", C_NoPerson), ("Absent", C_Absent), ("Empty", C_Empty), ("TooManyEdits", C_TooManyEdits), ("NoVersion", C_NoVersion), ("NoIndex", C_NoIndex), ("Scene", C_Scene), ("Queue", C_Queue), ("TalliedQueue", C_TalliedQueue)] fa) r l1).cls "Empty") veB "ValueError.__new__" = true := by
    show RaiB K ((clsOf [("TooLarge", C_TooLarge), ("NoGroup", C_NoGroup), ("Busy", C_Busy), ("NoPerson", C_NoPerson), ("Absent", C_Absent), ("Empty", C_Empty), ("TooManyEdits", C_TooManyEdits), ("NoVersion", C_NoVersion), ("NoIndex", C_NoIndex), ("Scene", C_Scene), ("Queue", C_Queue), ("TalliedQueue", C_TalliedQueue)] fa) "Empty") _ ∧ PySem.W.excIn K ((clsOf [("TooLarge", C_TooLarge), ("NoGroup", C_NoGroup), ("Busy", C_Busy), ("NoPerson", C_NoPerson), ("Absent", C_Absent), ("Empty", C_Empty), ("TooManyEdits", C_TooManyEdits), ("NoVersion", C_NoVersion), ("NoIndex", C_NoIndex), ("Scene", C_Scene), ("Queue", C_Queue), ("TalliedQueue", C_TalliedQueue)] fa) "Empty") _ _ = true
    rw [k_Empty]; exact R_Empty
  have RB_Empty := RZ_Empty.1
  have M_Empty := RB_Empty.mk0 RZ_Empty.2 X G
  have RZ_TooManyEdits : RaiB K ((sackB (clsOf [("TooLarge", C_TooLarge), ("NoGroup", C_NoGroup), ("Busy", C_Busy), ("NoPerson", C_NoPerson), ("Absent", C_Absent), ("Empty", C_Empty), ("TooManyEdits", C_TooManyEdits), ("NoVersion", C_NoVersion), ("NoIndex", C_NoIndex), ("Scene", C_Scene), ("Queue", C_Queue), ("TalliedQueue", C_TalliedQueue)] fa) r l1).cls "TooManyEdits") "TooManyEdits" ∧ PySem.W.excIn K ((sackB (clsOf [("TooLarge", C_TooLarge), ("NoGroup", C_NoGroup), ("Busy", C_Busy), ("NoPerson", C_NoPerson), ("Absent", C_Absent), ("Empty", C_Empty), ("TooManyEdits", C_TooManyEdits), ("NoVersion", C_NoVersion), ("NoIndex", C_NoIndex), ("Scene", C_Scene), ("Queue", C_Queue), ("TalliedQueue", C_TalliedQueue)] fa) r l1).cls "TooManyEdits") veB "ValueError.__new__" = true := by
    show RaiB K ((clsOf [("TooLarge", C_TooLarge), ("NoGroup", C_NoGroup), ("Busy", C_Busy), ("NoPerson", C_NoPerson), ("Absent", C_Absent), ("Empty", C_Empty), ("TooManyEdits", C_TooManyEdits), ("NoVersion", C_NoVersion), ("NoIndex", C_NoIndex), ("Scene", C_Scene), ("Queue", C_Queue), ("TalliedQueue", C_TalliedQueue)] fa) "TooManyEdits") _ ∧ PySem.W.excIn K ((clsOf [("TooLarge", C_TooLarge), ("NoGroup", C_NoGroup), ("Busy", C_Busy), ("NoPerson", C_NoPerson), ("Absent", C_Absent), ("Empty", C_Empty), ("TooManyEdits", C_TooManyEdits), ("NoVersion", C_NoVersion), ("NoIndex", C_NoIndex), ("Scene", C_Scene), ("Queue", C_Queue), ("TalliedQueue", C_TalliedQueue)] fa) "TooManyEdits") _ _ = true
    rw [k_TooManyEdits]; exact R_TooManyEdits
  have RB_TooManyEdits := RZ_TooManyEdits.1
  have M_TooManyEdits := RB_TooManyEdits.mk0 RZ_TooManyEdits.2 X G
  have RI_NoVersion : RaiI K ((sackB (clsOf [("TooLarge", C_TooLarge), ("NoGroup", C_NoGroup), ("Busy", C_Busy), ("NoPerson", C_NoPerson), ("Absent", C_Absent), ("Empty", C_Empty), ("TooManyEdits", C_TooManyEdits), ("NoVersion", C_NoVersion), ("NoIndex", C_NoIndex), ("Scene", C_Scene), ("Queue", C_Queue), ("TalliedQueue", C_TalliedQueue)] fa) r l1).cls "NoVersion") "NoVersion" "NoVersion.__init__" "version" s_NoVersion := by
    show RaiI K ((clsOf [("TooLarge", C_TooLarge), ("NoGroup", C_NoGroup), ("Busy", C_Busy), ("NoPerson", C_NoPerson), ("Absent", C_Absent), ("Empty", C_Empty), ("TooManyEdits", C_TooManyEdits), ("NoVersion", C_NoVersion), ("NoIndex", C_NoIndex), ("Scene", C_Scene), ("Queue", C_Queue), ("TalliedQueue", C_TalliedQueue)] fa) "NoVersion") _ _ _ _
    rw [k_NoVersion]; exact R_NoVersion
  have RB_NoVersion := RI_NoVersion.b
  obtain ⟨M_NoVersion⟩ := RI_NoVersion.mk1 (P := l.prog) (w := w) (base := base) (prm := "version") X G (fun fa fd F => wi_NoVersion F) (fun _ _ _ _ _ _ us hl => match us, hl with | [_, _], _ => rfl)
  have RI_NoIndex : RaiI K ((sackB (clsOf [("TooLarge", C_TooLarge), ("NoGroup", C_NoGroup), ("Busy", C_Busy), ("NoPerson", C_NoPerson), ("Absent", C_Absent), ("Empty", C_Empty), ("TooManyEdits", C_TooManyEdits), ("NoVersion", C_NoVersion), ("NoIndex", C_NoIndex), ("Scene", C_Scene), ("Queue", C_Queue), ("TalliedQueue", C_TalliedQueue)] fa) r l1).cls "NoIndex") "NoIndex" "NoIndex.__init__" "index" s_NoIndex := by
    show RaiI K ((clsOf [("TooLarge", C_TooLarge), ("NoGroup", C_NoGroup), ("Busy", C_Busy), ("NoPerson", C_NoPerson), ("Absent", C_Absent), ("Empty", C_Empty), ("TooManyEdits", C_TooManyEdits), ("NoVersion", C_NoVersion), ("NoIndex", C_NoIndex), ("Scene", C_Scene), ("Queue", C_Queue), ("TalliedQueue", C_TalliedQueue)] fa) "NoIndex") _ _ _ _
    rw [k_NoIndex]; exact R_NoIndex
  have RB_NoIndex := RI_NoIndex.b
  obtain ⟨M_NoIndex⟩ := RI_NoIndex.mk1 (P := l.prog) (w := w) (base := base) (prm := "index") X G (fun fa fd F => wi_NoIndex F) (fun _ _ _ _ _ _ us hl => match us, hl with | [_, _], _ => rfl)
  have RL_Queue : ClsB K ((sackB (clsOf [("TooLarge", C_TooLarge), ("NoGroup", C_NoGroup), ("Busy", C_Busy), ("NoPerson", C_NoPerson), ("Absent", C_Absent), ("Empty", C_Empty), ("TooManyEdits", C_TooManyEdits), ("NoVersion", C_NoVersion), ("NoIndex", C_NoIndex), ("Scene", C_Scene), ("Queue", C_Queue), ("TalliedQueue", C_TalliedQueue)] fa) r l1).cls "Queue") "Queue" "Queue.__init__" s_Queue_init := by
    show ClsB K ((clsOf [("TooLarge", C_TooLarge), ("NoGroup", C_NoGroup), ("Busy", C_Busy), ("NoPerson", C_NoPerson), ("Absent", C_Absent), ("Empty", C_Empty), ("TooManyEdits", C_TooManyEdits), ("NoVersion", C_NoVersion), ("NoIndex", C_NoIndex), ("Scene", C_Scene), ("Queue", C_Queue), ("TalliedQueue", C_TalliedQueue)] fa) "Queue") _ _ _
    rw [k_Queue]; exact KC_Queue
  have CL_Queue := RL_Queue.c
  obtain ⟨fi_Queue, vi_Queue, Fi_Queue, MK_Queue⟩ := RL_Queue.ini
  have Bi_Queue := Fi_Queue.binds (ps := ["self"]) fun _ _ _ _ _ _ us hl => match us, hl with | [_], _ => rfl
  have RL_TalliedQueue : ClsB K ((sackB (clsOf [("TooLarge", C_TooLarge), ("NoGroup", C_NoGroup), ("Busy", C_Busy), ("NoPerson", C_NoPerson), ("Absent", C_Absent), ("Empty", C_Empty), ("TooManyEdits", C_TooManyEdits), ("NoVersion", C_NoVersion), ("NoIndex", C_NoIndex), ("Scene", C_Scene), ("Queue", C_Queue), ("TalliedQueue", C_TalliedQueue)] fa) r l1).cls "TalliedQueue") "TalliedQueue" "Queue.__init__" s_Queue_init := by
    show ClsB K ((clsOf [("TooLarge", C_TooLarge), ("NoGroup", C_NoGroup), ("Busy", C_Busy), ("NoPerson", C_NoPerson), ("Absent", C_Absent), ("Empty", C_Empty), ("TooManyEdits", C_TooManyEdits), ("NoVersion", C_NoVersion), ("NoIndex", C_NoIndex), ("Scene", C_Scene), ("Queue", C_Queue), ("TalliedQueue", C_TalliedQueue)] fa) "TalliedQueue") _ _ _
    rw [k_TalliedQueue]; exact KC_TalliedQueue
  have CL_TalliedQueue := RL_TalliedQueue.c
  obtain ⟨fi_TalliedQueue, vi_TalliedQueue, Fi_TalliedQueue, MK_TalliedQueue⟩ := RL_TalliedQueue.ini
  have Bi_TalliedQueue := Fi_TalliedQueue.binds (ps := ["self"]) fun _ _ _ _ _ _ us hl => match us, hl with | [_], _ => rfl
  have FQ_scenes : ∀ n ∈ qNs, Cls K ((sackB (clsOf [("TooLarge", C_TooLarge), ("NoGroup", C_NoGroup), ("Busy", C_Busy), ("NoPerson", C_NoPerson), ("Absent", C_Absent), ("Empty", C_Empty), ("TooManyEdits", C_TooManyEdits), ("NoVersion", C_NoVersion), ("NoIndex", C_NoIndex), ("Scene", C_Scene), ("Queue", C_Queue), ("TalliedQueue", C_TalliedQueue)] fa) r l1).cls n) ∧ NoAttr K ((sackB (clsOf [("TooLarge", C_TooLarge), ("NoGroup", C_NoGroup), ("Busy", C_Busy), ("NoPerson", C_NoPerson), ("Absent", C_Absent), ("Empty", C_Empty), ("TooManyEdits", C_TooManyEdits), ("NoVersion", C_NoVersion), ("NoIndex", C_NoIndex), ("Scene", C_Scene), ("Queue", C_Queue), ("TalliedQueue", C_TalliedQueue)] fa) r l1).cls n) "scenes" := fun n hn => by
    simp only [qNs, List.mem_cons, List.not_mem_nil, or_false] at hn
    rcases hn with rfl | rfl
    · exact ⟨CL_Queue, KQ_Queue_scenes.at RL_Queue.ns⟩
    · exact ⟨CL_TalliedQueue, KQ_TalliedQueue_scenes.at RL_TalliedQueue.ns⟩
  have FQ_kept : ∀ n ∈ qNs, Cls K ((sackB (clsOf [("TooLarge", C_TooLarge), ("NoGroup", C_NoGroup), ("Busy", C_Busy), ("NoPerson", C_NoPerson), ("Absent", C_Absent), ("Empty", C_Empty), ("TooManyEdits", C_TooManyEdits), ("NoVersion", C_NoVersion), ("NoIndex", C_NoIndex), ("Scene", C_Scene), ("Queue", C_Queue), ("TalliedQueue", C_TalliedQueue)] fa) r l1).cls n) ∧ NoAttr K ((sackB (clsOf [("TooLarge", C_TooLarge), ("NoGroup", C_NoGroup), ("Busy", C_Busy), ("NoPerson", C_NoPerson), ("Absent", C_Absent), ("Empty", C_Empty), ("TooManyEdits", C_TooManyEdits), ("NoVersion", C_NoVersion), ("NoIndex", C_NoIndex), ("Scene", C_Scene), ("Queue", C_Queue), ("TalliedQueue", C_TalliedQueue)] fa) r l1).cls n) "kept" := fun n hn => by
    simp only [qNs, List.mem_cons, List.not_mem_nil, or_false] at hn
    rcases hn with rfl | rfl
    · exact ⟨CL_Queue, KQ_Queue_kept.at RL_Queue.ns⟩
    · exact ⟨CL_TalliedQueue, KQ_TalliedQueue_kept.at RL_TalliedQueue.ns⟩
  have FQ_is_busy : ∀ n ∈ qNs, Cls K ((sackB (clsOf [("TooLarge", C_TooLarge), ("NoGroup", C_NoGroup), ("Busy", C_Busy), ("NoPerson", C_NoPerson), ("Absent", C_Absent), ("Empty", C_Empty), ("TooManyEdits", C_TooManyEdits), ("NoVersion", C_NoVersion), ("NoIndex", C_NoIndex), ("Scene", C_Scene), ("Queue", C_Queue), ("TalliedQueue", C_TalliedQueue)] fa) r l1).cls n) ∧ NoAttr K ((sackB (clsOf [("TooLarge", C_TooLarge), ("NoGroup", C_NoGroup), ("Busy", C_Busy), ("NoPerson", C_NoPerson), ("Absent", C_Absent), ("Empty", C_Empty), ("TooManyEdits", C_TooManyEdits), ("NoVersion", C_NoVersion), ("NoIndex", C_NoIndex), ("Scene", C_Scene), ("Queue", C_Queue), ("TalliedQueue", C_TalliedQueue)] fa) r l1).cls n) "is_busy" := fun n hn => by
    simp only [qNs, List.mem_cons, List.not_mem_nil, or_false] at hn
    rcases hn with rfl | rfl
    · exact ⟨CL_Queue, KQ_Queue_is_busy.at RL_Queue.ns⟩
    · exact ⟨CL_TalliedQueue, KQ_TalliedQueue_is_busy.at RL_TalliedQueue.ns⟩
  have FC_LIMIT : ConQ K (sackB (clsOf [("TooLarge", C_TooLarge), ("NoGroup", C_NoGroup), ("Busy", C_Busy), ("NoPerson", C_NoPerson), ("Absent", C_Absent), ("Empty", C_Empty), ("TooManyEdits", C_TooManyEdits), ("NoVersion", C_NoVersion), ("NoIndex", C_NoIndex), ("Scene", C_Scene), ("Queue", C_Queue), ("TalliedQueue", C_TalliedQueue)] fa) r l1) qNs "LIMIT" (.int 60) := ⟨fun n hn => by
    simp only [qNs, List.mem_cons, List.not_mem_nil, or_false] at hn
    rcases hn with rfl | rfl
    · obtain ⟨u, hu⟩ := KV_Queue.at RL_Queue.ns; exact ⟨.int 60, u, CL_Queue, hu, fun _ _ => .int 60⟩
    · obtain ⟨u, hu⟩ := KV_TalliedQueue.at RL_TalliedQueue.ns; exact ⟨.int 60, u, CL_TalliedQueue, hu, fun _ _ => .int 60⟩⟩
  have RL_Scene : ClsB K ((sackB (clsOf [("TooLarge", C_TooLarge), ("NoGroup", C_NoGroup), ("Busy", C_Busy), ("NoPerson", C_NoPerson), ("Absent", C_Absent), ("Empty", C_Empty), ("TooManyEdits", C_TooManyEdits), ("NoVersion", C_NoVersion), ("NoIndex", C_NoIndex), ("Scene", C_Scene), ("Queue", C_Queue), ("TalliedQueue", C_TalliedQueue)] fa) r l1).cls "Scene") "Scene" "Scene.__init__" s_Scene_init := by
    show ClsB K ((clsOf [("TooLarge", C_TooLarge), ("NoGroup", C_NoGroup), ("Busy", C_Busy), ("NoPerson", C_NoPerson), ("Absent", C_Absent), ("Empty", C_Empty), ("TooManyEdits", C_TooManyEdits), ("NoVersion", C_NoVersion), ("NoIndex", C_NoIndex), ("Scene", C_Scene), ("Queue", C_Queue), ("TalliedQueue", C_TalliedQueue)] fa) "Scene") _ _ _
    rw [k_Scene]; exact KC_Scene
  have CL_Scene := RL_Scene.c
  obtain ⟨f20000, v20000, F20000, MK20000⟩ := RL_Scene.ini
  have B20000 := F20000.binds (ps := ["self", "groups", "line", "done", "left", "mated", "passed", "letters"]) fun _ _ _ _ _ _ us hl => match us, hl with | [_, _, _, _, _, _, _, _], _ => rfl
  have NA_Scene_groups := KN_Scene_groups.at RL_Scene.ns
  have NA_Scene_line := KN_Scene_line.at RL_Scene.ns
  have NA_Scene_done := KN_Scene_done.at RL_Scene.ns
  have NA_Scene_left := KN_Scene_left.at RL_Scene.ns
  have NA_Scene_mated := KN_Scene_mated.at RL_Scene.ns
  have NA_Scene_passed := KN_Scene_passed.at RL_Scene.ns
  have NA_Scene_letters := KN_Scene_letters.at RL_Scene.ns
  obtain ⟨f20001, v20001, F20001, MT20001⟩ := KM_Scene_with_one.at RL_Scene.ns
  have B20001 := F20001.binds (ps := ["self", "group"]) fun _ _ _ _ _ _ us hl => match us, hl with | [_, _], _ => rfl
  obtain ⟨f20002, v20002, F20002, MT20002⟩ := KM_Scene_with_service.at RL_Scene.ns
  have B20002 := F20002.binds (ps := ["self"]) fun _ _ _ _ _ _ us hl => match us, hl with | [_], _ => rfl
  obtain ⟨f20003, v20003, F20003, MT20003⟩ := KM_Scene_without_one.at RL_Scene.ns
  have B20003 := F20003.binds (ps := ["self", "person"]) fun _ _ _ _ _ _ us hl => match us, hl with | [_, _], _ => rfl
  have EB : ∀ n ∈ (["TooLarge", "NoGroup", "Busy", "NoPerson", "Absent", "Empty", "TooManyEdits", "NoVersion", "NoIndex"] : List Str), RaiB K ((sackB (clsOf [("TooLarge", C_TooLarge), ("NoGroup", C_NoGroup), ("Busy", C_Busy), ("NoPerson", C_NoPerson), ("Absent", C_Absent), ("Empty", C_Empty), ("TooManyEdits", C_TooManyEdits), ("NoVersion", C_NoVersion), ("NoIndex", C_NoIndex), ("Scene", C_Scene), ("Queue", C_Queue), ("TalliedQueue", C_TalliedQueue)] fa) r l1).cls n) n := fun n hn => by
    simp only [List.mem_cons, List.not_mem_nil, or_false] at hn
    rcases hn with rfl | rfl | rfl | rfl | rfl | rfl | rfl | rfl | rfl
    · exact RB_TooLarge
    · exact RB_NoGroup
    · exact RB_Busy
    · exact RB_NoPerson
    · exact RB_Absent
    · exact RB_Empty
    · exact RB_TooManyEdits
    · exact RB_NoVersion
    · exact RB_NoIndex
  have EC : ∀ n ∈ (["TooLarge", "NoGroup", "Busy", "NoPerson", "Absent", "Empty", "TooManyEdits", "NoVersion", "NoIndex"] : List Str), ErrC K ((sackB (clsOf [("TooLarge", C_TooLarge), ("NoGroup", C_NoGroup), ("Busy", C_Busy), ("NoPerson", C_NoPerson), ("Absent", C_Absent), ("Empty", C_Empty), ("TooManyEdits", C_TooManyEdits), ("NoVersion", C_NoVersion), ("NoIndex", C_NoIndex), ("Scene", C_Scene), ("Queue", C_Queue), ("TalliedQueue", C_TalliedQueue)] fa) r l1).cls n) := fun n hn => (EB n hn).ec
  have C27 : Cal l.prog w K mg base (sackB (clsOf [("TooLarge", C_TooLarge), ("NoGroup", C_NoGroup), ("Busy", C_Busy), ("NoPerson", C_NoPerson), ("Absent", C_Absent), ("Empty", C_Empty), ("TooManyEdits", C_TooManyEdits), ("NoVersion", C_NoVersion), ("NoIndex", C_NoIndex), ("Scene", C_Scene), ("Queue", C_Queue), ("TalliedQueue", C_TalliedQueue)] fa) r l1) 1 "_law_arrived" ["_law_now", "_law_kin"] S_q_arrived := ⟨f27, v27, w_q_arrived F27 y_max y_range y_len (fun ds Q E h => by first | (simp only [S_q_arrived] at h; split at h <;> first | rfl | exact h.elim) | (obtain ⟨rfl, _⟩ := h; rfl) | (obtain ⟨_, rfl, _⟩ := h; rfl) | (obtain ⟨_, _, rfl, _⟩ := h; rfl) | (obtain ⟨_, _, _, rfl, _⟩ := h; rfl) | (obtain ⟨_, _, _, _, rfl, _⟩ := h; rfl) | (obtain ⟨_, _, _, _, _, rfl, _⟩ := h; rfl) | (obtain ⟨_, _, _, _, _, _, rfl, _⟩ := h; rfl) | (obtain ⟨_, _, _, _, _, _, _, rfl, _⟩ := h; rfl)) l_q_arrived, g27, p27, B27⟩
  have C29 : Cal l.prog w K mg base (sackB (clsOf [("TooLarge", C_TooLarge), ("NoGroup", C_NoGroup), ("Busy", C_Busy), ("NoPerson", C_NoPerson), ("Absent", C_Absent), ("Empty", C_Empty), ("TooManyEdits", C_TooManyEdits), ("NoVersion", C_NoVersion), ("NoIndex", C_NoIndex), ("Scene", C_Scene), ("Queue", C_Queue), ("TalliedQueue", C_TalliedQueue)] fa) r l1) 2 "_law_first" ["_law_groups_here"] S_q_first := ⟨f29, v29, w_q_first F29 C27 (fun ds Q E h => by first | (simp only [S_q_first] at h; split at h <;> first | rfl | exact h.elim) | (obtain ⟨rfl, _⟩ := h; rfl) | (obtain ⟨_, rfl, _⟩ := h; rfl) | (obtain ⟨_, _, rfl, _⟩ := h; rfl) | (obtain ⟨_, _, _, rfl, _⟩ := h; rfl) | (obtain ⟨_, _, _, _, rfl, _⟩ := h; rfl) | (obtain ⟨_, _, _, _, _, rfl, _⟩ := h; rfl) | (obtain ⟨_, _, _, _, _, _, rfl, _⟩ := h; rfl) | (obtain ⟨_, _, _, _, _, _, _, rfl, _⟩ := h; rfl)) l_q_first, g29, p29, B29⟩
  have C24 : Cal l.prog w K mg base (sackB (clsOf [("TooLarge", C_TooLarge), ("NoGroup", C_NoGroup), ("Busy", C_Busy), ("NoPerson", C_NoPerson), ("Absent", C_Absent), ("Empty", C_Empty), ("TooManyEdits", C_TooManyEdits), ("NoVersion", C_NoVersion), ("NoIndex", C_NoIndex), ("Scene", C_Scene), ("Queue", C_Queue), ("TalliedQueue", C_TalliedQueue)] fa) r l1) 1 "_law_grab" ["_law_sack_here", "_law_many"] (svTake r) := ⟨f24, v24, (grab_v (cls := (clsOf [("TooLarge", C_TooLarge), ("NoGroup", C_NoGroup), ("Busy", C_Busy), ("NoPerson", C_NoPerson), ("Absent", C_Absent), ("Empty", C_Empty), ("TooManyEdits", C_TooManyEdits), ("NoVersion", C_NoVersion), ("NoIndex", C_NoIndex), ("Scene", C_Scene), ("Queue", C_Queue), ("TalliedQueue", C_TalliedQueue)] fa)) (r := r) O24), g24, p24, B24⟩
  have C31 : Cal l.prog w K mg base (sackB (clsOf [("TooLarge", C_TooLarge), ("NoGroup", C_NoGroup), ("Busy", C_Busy), ("NoPerson", C_NoPerson), ("Absent", C_Absent), ("Empty", C_Empty), ("TooManyEdits", C_TooManyEdits), ("NoVersion", C_NoVersion), ("NoIndex", C_NoIndex), ("Scene", C_Scene), ("Queue", C_Queue), ("TalliedQueue", C_TalliedQueue)] fa) r l1) 2 "_law_edit" ["_law_sack_here", "_law_now"] (S_q_edit r) := ⟨f31, v31, w_q_edit F31 C24 y_len (fun ds Q E h => by first | (simp only [S_q_edit] at h; split at h <;> first | rfl | exact h.elim) | (obtain ⟨rfl, _⟩ := h; rfl) | (obtain ⟨_, rfl, _⟩ := h; rfl) | (obtain ⟨_, _, rfl, _⟩ := h; rfl) | (obtain ⟨_, _, _, rfl, _⟩ := h; rfl) | (obtain ⟨_, _, _, _, rfl, _⟩ := h; rfl) | (obtain ⟨_, _, _, _, _, rfl, _⟩ := h; rfl) | (obtain ⟨_, _, _, _, _, _, rfl, _⟩ := h; rfl) | (obtain ⟨_, _, _, _, _, _, _, rfl, _⟩ := h; rfl)) (l_q_edit r), g31, p31, B31⟩
  have C26 : Cal l.prog w K mg base (sackB (clsOf [("TooLarge", C_TooLarge), ("NoGroup", C_NoGroup), ("Busy", C_Busy), ("NoPerson", C_NoPerson), ("Absent", C_Absent), ("Empty", C_Empty), ("TooManyEdits", C_TooManyEdits), ("NoVersion", C_NoVersion), ("NoIndex", C_NoIndex), ("Scene", C_Scene), ("Queue", C_Queue), ("TalliedQueue", C_TalliedQueue)] fa) r l1) 1 "_law_whole" ["_law_value", "_law_low", "_law_high"] S_q_whole := ⟨f26, v26, w_q_whole F26 y_isinstance y_bool y_int (fun ds Q E h => by first | (simp only [S_q_whole] at h; split at h <;> first | rfl | exact h.elim) | (obtain ⟨rfl, _⟩ := h; rfl) | (obtain ⟨_, rfl, _⟩ := h; rfl) | (obtain ⟨_, _, rfl, _⟩ := h; rfl) | (obtain ⟨_, _, _, rfl, _⟩ := h; rfl) | (obtain ⟨_, _, _, _, rfl, _⟩ := h; rfl) | (obtain ⟨_, _, _, _, _, rfl, _⟩ := h; rfl) | (obtain ⟨_, _, _, _, _, _, rfl, _⟩ := h; rfl) | (obtain ⟨_, _, _, _, _, _, _, rfl, _⟩ := h; rfl)) l_q_whole, g26, p26, B26⟩
  have C28 : Cal l.prog w K mg base (sackB (clsOf [("TooLarge", C_TooLarge), ("NoGroup", C_NoGroup), ("Busy", C_Busy), ("NoPerson", C_NoPerson), ("Absent", C_Absent), ("Empty", C_Empty), ("TooManyEdits", C_TooManyEdits), ("NoVersion", C_NoVersion), ("NoIndex", C_NoIndex), ("Scene", C_Scene), ("Queue", C_Queue), ("TalliedQueue", C_TalliedQueue)] fa) r l1) 2 "_law_after" ["_law_now", "_law_edit_here"] S_q_after := ⟨f28, v28, w_q_after F28 C26 C27 y_len y_tuple (fun ds Q E h => by first | (simp only [S_q_after] at h; split at h <;> first | rfl | exact h.elim) | (obtain ⟨rfl, _⟩ := h; rfl) | (obtain ⟨_, rfl, _⟩ := h; rfl) | (obtain ⟨_, _, rfl, _⟩ := h; rfl) | (obtain ⟨_, _, _, rfl, _⟩ := h; rfl) | (obtain ⟨_, _, _, _, rfl, _⟩ := h; rfl) | (obtain ⟨_, _, _, _, _, rfl, _⟩ := h; rfl) | (obtain ⟨_, _, _, _, _, _, rfl, _⟩ := h; rfl) | (obtain ⟨_, _, _, _, _, _, _, rfl, _⟩ := h; rfl)) l_q_after, g28, p28, B28⟩
  have C32 : Cal l.prog w K mg base (sackB (clsOf [("TooLarge", C_TooLarge), ("NoGroup", C_NoGroup), ("Busy", C_Busy), ("NoPerson", C_NoPerson), ("Absent", C_Absent), ("Empty", C_Empty), ("TooManyEdits", C_TooManyEdits), ("NoVersion", C_NoVersion), ("NoIndex", C_NoIndex), ("Scene", C_Scene), ("Queue", C_Queue), ("TalliedQueue", C_TalliedQueue)] fa) r l1) 3 "_law_planned" ["_law_sack_here", "_law_count", "_law_is_staying"] (S_law_planned r) := ⟨f32, v32, w_law_planned F32 C29 C31 C28 y_range (fun ds Q E h => by first | (simp only [S_law_planned] at h; split at h <;> first | rfl | exact h.elim) | (obtain ⟨rfl, _⟩ := h; rfl) | (obtain ⟨_, rfl, _⟩ := h; rfl) | (obtain ⟨_, _, rfl, _⟩ := h; rfl) | (obtain ⟨_, _, _, rfl, _⟩ := h; rfl) | (obtain ⟨_, _, _, _, rfl, _⟩ := h; rfl) | (obtain ⟨_, _, _, _, _, rfl, _⟩ := h; rfl) | (obtain ⟨_, _, _, _, _, _, rfl, _⟩ := h; rfl) | (obtain ⟨_, _, _, _, _, _, _, rfl, _⟩ := h; rfl)) (l_law_planned r), g32, p32, B32⟩
  have C20000 : CalI l.prog w K mg base (sackB (clsOf [("TooLarge", C_TooLarge), ("NoGroup", C_NoGroup), ("Busy", C_Busy), ("NoPerson", C_NoPerson), ("Absent", C_Absent), ("Empty", C_Empty), ("TooManyEdits", C_TooManyEdits), ("NoVersion", C_NoVersion), ("NoIndex", C_NoIndex), ("Scene", C_Scene), ("Queue", C_Queue), ("TalliedQueue", C_TalliedQueue)] fa) r l1) 1 "Scene" ["self", "groups", "line", "done", "left", "mated", "passed", "letters"] S_Scene_init := ⟨f20000, v20000, w_Scene_init F20000 CL_Scene NA_Scene_groups NA_Scene_line NA_Scene_done NA_Scene_left NA_Scene_mated NA_Scene_passed NA_Scene_letters (fun ds Q E h => by first | (simp only [S_Scene_init] at h; split at h <;> first | rfl | exact h.elim) | (obtain ⟨rfl, _⟩ := h; rfl) | (obtain ⟨_, rfl, _⟩ := h; rfl) | (obtain ⟨_, _, rfl, _⟩ := h; rfl) | (obtain ⟨_, _, _, rfl, _⟩ := h; rfl) | (obtain ⟨_, _, _, _, rfl, _⟩ := h; rfl) | (obtain ⟨_, _, _, _, _, rfl, _⟩ := h; rfl) | (obtain ⟨_, _, _, _, _, _, rfl, _⟩ := h; rfl) | (obtain ⟨_, _, _, _, _, _, _, rfl, _⟩ := h; rfl)) l_Scene_init, MK20000, PySem.W.mg_of X G RL_Scene.ns, B20000⟩
  have W_init_Queue := w_Queue_init (w := w) (P := l.prog) (base := base) (mg := mg) (b := (sackB (clsOf [("TooLarge", C_TooLarge), ("NoGroup", C_NoGroup), ("Busy", C_Busy), ("NoPerson", C_NoPerson), ("Absent", C_Absent), ("Empty", C_Empty), ("TooManyEdits", C_TooManyEdits), ("NoVersion", C_NoVersion), ("NoIndex", C_NoIndex), ("Scene", C_Scene), ("Queue", C_Queue), ("TalliedQueue", C_TalliedQueue)] fa) r l1)) (S := S_Queue_init) Fi_Queue C20000 FQ_scenes FQ_kept FQ_is_busy (fun x n fs ds1 ds2 Q E h => by first | (obtain ⟨_, rfl, rfl, rfl, _⟩ := h; rfl) | (obtain ⟨_, _, rfl, rfl, rfl, _⟩ := h; rfl) | (obtain ⟨_, _, _, rfl, rfl, rfl, _⟩ := h; rfl) | (obtain ⟨_, _, _, _, rfl, rfl, rfl, _⟩ := h; rfl) | (obtain ⟨_, _, _, _, _, rfl, rfl, rfl, _⟩ := h; rfl) | (obtain ⟨_, _, _, _, _, _, rfl, rfl, rfl, _⟩ := h; rfl) | (obtain ⟨_, _, _, _, _, _, _, rfl, rfl, rfl, _⟩ := h; rfl) | (obtain ⟨_, _, _, _, _, _, _, _, rfl, rfl, rfl, _⟩ := h; rfl) | (obtain ⟨_, _, _, _, _, _, _, _, _, rfl, rfl, rfl, _⟩ := h; rfl)) l_Queue_init
  have W_init_TalliedQueue := w_Queue_init (w := w) (P := l.prog) (base := base) (mg := mg) (b := (sackB (clsOf [("TooLarge", C_TooLarge), ("NoGroup", C_NoGroup), ("Busy", C_Busy), ("NoPerson", C_NoPerson), ("Absent", C_Absent), ("Empty", C_Empty), ("TooManyEdits", C_TooManyEdits), ("NoVersion", C_NoVersion), ("NoIndex", C_NoIndex), ("Scene", C_Scene), ("Queue", C_Queue), ("TalliedQueue", C_TalliedQueue)] fa) r l1)) (S := S_Queue_init) Fi_TalliedQueue C20000 FQ_scenes FQ_kept FQ_is_busy (fun x n fs ds1 ds2 Q E h => by first | (obtain ⟨_, rfl, rfl, rfl, _⟩ := h; rfl) | (obtain ⟨_, _, rfl, rfl, rfl, _⟩ := h; rfl) | (obtain ⟨_, _, _, rfl, rfl, rfl, _⟩ := h; rfl) | (obtain ⟨_, _, _, _, rfl, rfl, rfl, _⟩ := h; rfl) | (obtain ⟨_, _, _, _, _, rfl, rfl, rfl, _⟩ := h; rfl) | (obtain ⟨_, _, _, _, _, _, rfl, rfl, rfl, _⟩ := h; rfl) | (obtain ⟨_, _, _, _, _, _, _, rfl, rfl, rfl, _⟩ := h; rfl) | (obtain ⟨_, _, _, _, _, _, _, _, rfl, rfl, rfl, _⟩ := h; rfl) | (obtain ⟨_, _, _, _, _, _, _, _, _, rfl, rfl, rfl, _⟩ := h; rfl)) l_Queue_init
  have CK_Queue : CalK l.prog w K mg base (sackB (clsOf [("TooLarge", C_TooLarge), ("NoGroup", C_NoGroup), ("Busy", C_Busy), ("NoPerson", C_NoPerson), ("Absent", C_Absent), ("Empty", C_Empty), ("TooManyEdits", C_TooManyEdits), ("NoVersion", C_NoVersion), ("NoIndex", C_NoIndex), ("Scene", C_Scene), ("Queue", C_Queue), ("TalliedQueue", C_TalliedQueue)] fa) r l1) 3 "Queue" S_Queue_init := ⟨_, _, _, W_init_Queue, MK_Queue, PySem.W.mg_of X G RL_Queue.ns, Bi_Queue⟩
  have CK_TalliedQueue : CalK l.prog w K mg base (sackB (clsOf [("TooLarge", C_TooLarge), ("NoGroup", C_NoGroup), ("Busy", C_Busy), ("NoPerson", C_NoPerson), ("Absent", C_Absent), ("Empty", C_Empty), ("TooManyEdits", C_TooManyEdits), ("NoVersion", C_NoVersion), ("NoIndex", C_NoIndex), ("Scene", C_Scene), ("Queue", C_Queue), ("TalliedQueue", C_TalliedQueue)] fa) r l1) 3 "TalliedQueue" S_Queue_init := ⟨_, _, _, W_init_TalliedQueue, MK_TalliedQueue, PySem.W.mg_of X G RL_TalliedQueue.ns, Bi_TalliedQueue⟩
  have CK_all : CalKs l.prog w K mg base (sackB (clsOf [("TooLarge", C_TooLarge), ("NoGroup", C_NoGroup), ("Busy", C_Busy), ("NoPerson", C_NoPerson), ("Absent", C_Absent), ("Empty", C_Empty), ("TooManyEdits", C_TooManyEdits), ("NoVersion", C_NoVersion), ("NoIndex", C_NoIndex), ("Scene", C_Scene), ("Queue", C_Queue), ("TalliedQueue", C_TalliedQueue)] fa) r l1) 3 qNs (fun _ => S_Queue_init) := ⟨fun n hn => by
    simp only [qNs, List.mem_cons, List.not_mem_nil, or_false] at hn
    rcases hn with rfl | rfl
    · exact ⟨_, _, _, W_init_Queue, MK_Queue, Bi_Queue⟩
    · exact ⟨_, _, _, W_init_TalliedQueue, MK_TalliedQueue, Bi_TalliedQueue⟩⟩
  obtain ⟨f21007Queue, v21007Queue, F21007Queue, MT21007Queue⟩ := KM_Queue_require_idle_Queue.at RL_Queue.ns
  have B21007Queue := F21007Queue.binds (ps := ["self"]) fun _ _ _ _ _ _ us hl => match us, hl with | [_], _ => rfl
  have W21007Queue := w_Queue_require_idle (w := w) (P := l.prog) (base := base) (mg := mg) (b := (sackB (clsOf [("TooLarge", C_TooLarge), ("NoGroup", C_NoGroup), ("Busy", C_Busy), ("NoPerson", C_NoPerson), ("Absent", C_Absent), ("Empty", C_Empty), ("TooManyEdits", C_TooManyEdits), ("NoVersion", C_NoVersion), ("NoIndex", C_NoIndex), ("Scene", C_Scene), ("Queue", C_Queue), ("TalliedQueue", C_TalliedQueue)] fa) r l1)) (S := S_Queue_require_idle) F21007Queue FQ_is_busy M_Busy (fun ds Q E h => by first | (simp only [S_Queue_require_idle] at h; split at h <;> first | rfl | exact h.elim) | (obtain ⟨rfl, _⟩ := h; rfl) | (obtain ⟨_, rfl, _⟩ := h; rfl) | (obtain ⟨_, _, rfl, _⟩ := h; rfl) | (obtain ⟨_, _, _, rfl, _⟩ := h; rfl) | (obtain ⟨_, _, _, _, rfl, _⟩ := h; rfl) | (obtain ⟨_, _, _, _, _, rfl, _⟩ := h; rfl) | (obtain ⟨_, _, _, _, _, _, rfl, _⟩ := h; rfl) | (obtain ⟨_, _, _, _, _, _, _, rfl, _⟩ := h; rfl) | (obtain ⟨_, _, _, _, _, _, _, _, rfl, _⟩ := h; rfl)) l_Queue_require_idle
  obtain ⟨f21007TalliedQueue, v21007TalliedQueue, F21007TalliedQueue, MT21007TalliedQueue⟩ := KM_Queue_require_idle_TalliedQueue.at RL_TalliedQueue.ns
  have B21007TalliedQueue := F21007TalliedQueue.binds (ps := ["self"]) fun _ _ _ _ _ _ us hl => match us, hl with | [_], _ => rfl
  have W21007TalliedQueue := w_Queue_require_idle (w := w) (P := l.prog) (base := base) (mg := mg) (b := (sackB (clsOf [("TooLarge", C_TooLarge), ("NoGroup", C_NoGroup), ("Busy", C_Busy), ("NoPerson", C_NoPerson), ("Absent", C_Absent), ("Empty", C_Empty), ("TooManyEdits", C_TooManyEdits), ("NoVersion", C_NoVersion), ("NoIndex", C_NoIndex), ("Scene", C_Scene), ("Queue", C_Queue), ("TalliedQueue", C_TalliedQueue)] fa) r l1)) (S := S_Queue_require_idle) F21007TalliedQueue FQ_is_busy M_Busy (fun ds Q E h => by first | (simp only [S_Queue_require_idle] at h; split at h <;> first | rfl | exact h.elim) | (obtain ⟨rfl, _⟩ := h; rfl) | (obtain ⟨_, rfl, _⟩ := h; rfl) | (obtain ⟨_, _, rfl, _⟩ := h; rfl) | (obtain ⟨_, _, _, rfl, _⟩ := h; rfl) | (obtain ⟨_, _, _, _, rfl, _⟩ := h; rfl) | (obtain ⟨_, _, _, _, _, rfl, _⟩ := h; rfl) | (obtain ⟨_, _, _, _, _, _, rfl, _⟩ := h; rfl) | (obtain ⟨_, _, _, _, _, _, _, rfl, _⟩ := h; rfl) | (obtain ⟨_, _, _, _, _, _, _, _, rfl, _⟩ := h; rfl)) l_Queue_require_idle
  have C21007 : CalQ l.prog w K mg base (sackB (clsOf [("TooLarge", C_TooLarge), ("NoGroup", C_NoGroup), ("Busy", C_Busy), ("NoPerson", C_NoPerson), ("Absent", C_Absent), ("Empty", C_Empty), ("TooManyEdits", C_TooManyEdits), ("NoVersion", C_NoVersion), ("NoIndex", C_NoIndex), ("Scene", C_Scene), ("Queue", C_Queue), ("TalliedQueue", C_TalliedQueue)] fa) r l1) 1 qNs "require_idle" (fun _ => S_Queue_require_idle) := ⟨fun n hn => by
    simp only [qNs, List.mem_cons, List.not_mem_nil, or_false] at hn
    rcases hn with rfl | rfl
    · exact ⟨_, fnR0 W21007Queue B21007Queue, CL_Queue, MT21007Queue⟩
    · exact ⟨_, fnR0 W21007TalliedQueue B21007TalliedQueue, CL_TalliedQueue, MT21007TalliedQueue⟩⟩
  have C18 : Cal l.prog w K mg base (sackB (clsOf [("TooLarge", C_TooLarge), ("NoGroup", C_NoGroup), ("Busy", C_Busy), ("NoPerson", C_NoPerson), ("Absent", C_Absent), ("Empty", C_Empty), ("TooManyEdits", C_TooManyEdits), ("NoVersion", C_NoVersion), ("NoIndex", C_NoIndex), ("Scene", C_Scene), ("Queue", C_Queue), ("TalliedQueue", C_TalliedQueue)] fa) r l1) 1 "is_whole" ["value", "low", "high"] S_is_whole := ⟨f18, v18, w_is_whole F18 y_isinstance y_bool y_int (fun ds Q E h => by first | (simp only [S_is_whole] at h; split at h <;> first | rfl | exact h.elim) | (obtain ⟨rfl, _⟩ := h; rfl) | (obtain ⟨_, rfl, _⟩ := h; rfl) | (obtain ⟨_, _, rfl, _⟩ := h; rfl) | (obtain ⟨_, _, _, rfl, _⟩ := h; rfl) | (obtain ⟨_, _, _, _, rfl, _⟩ := h; rfl) | (obtain ⟨_, _, _, _, _, rfl, _⟩ := h; rfl) | (obtain ⟨_, _, _, _, _, _, rfl, _⟩ := h; rfl) | (obtain ⟨_, _, _, _, _, _, _, rfl, _⟩ := h; rfl)) l_is_whole, g18, p18, B18⟩
  obtain ⟨p21003Queue, f21003Queue, m21003Queue, v21003Queue, F21003Queue, SI21003Queue, SC21003Queue⟩ := KM_Queue_is_group_Queue.at RL_Queue.ns
  have B21003Queue := F21003Queue.binds (ps := ["value"]) fun _ _ _ _ _ _ us hl => match us, hl with | [_], _ => rfl
  have W21003Queue := w_Queue_is_group (w := w) (P := l.prog) (base := base) (mg := mg) (b := (sackB (clsOf [("TooLarge", C_TooLarge), ("NoGroup", C_NoGroup), ("Busy", C_Busy), ("NoPerson", C_NoPerson), ("Absent", C_Absent), ("Empty", C_Empty), ("TooManyEdits", C_TooManyEdits), ("NoVersion", C_NoVersion), ("NoIndex", C_NoIndex), ("Scene", C_Scene), ("Queue", C_Queue), ("TalliedQueue", C_TalliedQueue)] fa) r l1)) (S := S_Queue_is_group) F21003Queue C18 ⟨_, c0⟩ (fun ds Q E h => by first | (simp only [S_Queue_is_group] at h; split at h <;> first | rfl | exact h.elim) | (obtain ⟨rfl, _⟩ := h; rfl) | (obtain ⟨_, rfl, _⟩ := h; rfl) | (obtain ⟨_, _, rfl, _⟩ := h; rfl) | (obtain ⟨_, _, _, rfl, _⟩ := h; rfl) | (obtain ⟨_, _, _, _, rfl, _⟩ := h; rfl) | (obtain ⟨_, _, _, _, _, rfl, _⟩ := h; rfl) | (obtain ⟨_, _, _, _, _, _, rfl, _⟩ := h; rfl) | (obtain ⟨_, _, _, _, _, _, _, rfl, _⟩ := h; rfl) | (obtain ⟨_, _, _, _, _, _, _, _, rfl, _⟩ := h; rfl)) l_Queue_is_group
  obtain ⟨p21003TalliedQueue, f21003TalliedQueue, m21003TalliedQueue, v21003TalliedQueue, F21003TalliedQueue, SI21003TalliedQueue, SC21003TalliedQueue⟩ := KM_Queue_is_group_TalliedQueue.at RL_TalliedQueue.ns
  have B21003TalliedQueue := F21003TalliedQueue.binds (ps := ["value"]) fun _ _ _ _ _ _ us hl => match us, hl with | [_], _ => rfl
  have W21003TalliedQueue := w_Queue_is_group (w := w) (P := l.prog) (base := base) (mg := mg) (b := (sackB (clsOf [("TooLarge", C_TooLarge), ("NoGroup", C_NoGroup), ("Busy", C_Busy), ("NoPerson", C_NoPerson), ("Absent", C_Absent), ("Empty", C_Empty), ("TooManyEdits", C_TooManyEdits), ("NoVersion", C_NoVersion), ("NoIndex", C_NoIndex), ("Scene", C_Scene), ("Queue", C_Queue), ("TalliedQueue", C_TalliedQueue)] fa) r l1)) (S := S_Queue_is_group) F21003TalliedQueue C18 ⟨_, c0⟩ (fun ds Q E h => by first | (simp only [S_Queue_is_group] at h; split at h <;> first | rfl | exact h.elim) | (obtain ⟨rfl, _⟩ := h; rfl) | (obtain ⟨_, rfl, _⟩ := h; rfl) | (obtain ⟨_, _, rfl, _⟩ := h; rfl) | (obtain ⟨_, _, _, rfl, _⟩ := h; rfl) | (obtain ⟨_, _, _, _, rfl, _⟩ := h; rfl) | (obtain ⟨_, _, _, _, _, rfl, _⟩ := h; rfl) | (obtain ⟨_, _, _, _, _, _, rfl, _⟩ := h; rfl) | (obtain ⟨_, _, _, _, _, _, _, rfl, _⟩ := h; rfl) | (obtain ⟨_, _, _, _, _, _, _, _, rfl, _⟩ := h; rfl)) l_Queue_is_group
  have C21003 : CalT l.prog w K mg base (sackB (clsOf [("TooLarge", C_TooLarge), ("NoGroup", C_NoGroup), ("Busy", C_Busy), ("NoPerson", C_NoPerson), ("Absent", C_Absent), ("Empty", C_Empty), ("TooManyEdits", C_TooManyEdits), ("NoVersion", C_NoVersion), ("NoIndex", C_NoIndex), ("Scene", C_Scene), ("Queue", C_Queue), ("TalliedQueue", C_TalliedQueue)] fa) r l1) 2 qNs "is_group" S_Queue_is_group := ⟨fun n hn => by
    simp only [qNs, List.mem_cons, List.not_mem_nil, or_false] at hn
    rcases hn with rfl | rfl
    · exact ⟨_, _, _, _, _, W21003Queue, B21003Queue, SI21003Queue, SC21003Queue⟩
    · exact ⟨_, _, _, _, _, W21003TalliedQueue, B21003TalliedQueue, SI21003TalliedQueue, SC21003TalliedQueue⟩⟩
  obtain ⟨p21004Queue, f21004Queue, v21004Queue, F21004Queue, PP21004Queue⟩ := KM_Queue_people_Queue.at RL_Queue.ns
  have B21004Queue := F21004Queue.binds (ps := ["self"]) fun _ _ _ _ _ _ us hl => match us, hl with | [_], _ => rfl
  have W21004Queue := w_Queue_people (w := w) (P := l.prog) (base := base) (mg := mg) (b := (sackB (clsOf [("TooLarge", C_TooLarge), ("NoGroup", C_NoGroup), ("Busy", C_Busy), ("NoPerson", C_NoPerson), ("Absent", C_Absent), ("Empty", C_Empty), ("TooManyEdits", C_TooManyEdits), ("NoVersion", C_NoVersion), ("NoIndex", C_NoIndex), ("Scene", C_Scene), ("Queue", C_Queue), ("TalliedQueue", C_TalliedQueue)] fa) r l1)) (S := S_Queue_people) F21004Queue y_len FQ_scenes CL_Scene NA_Scene_groups (fun ds Q E h => by first | (simp only [S_Queue_people] at h; split at h <;> first | rfl | exact h.elim) | (obtain ⟨rfl, _⟩ := h; rfl) | (obtain ⟨_, rfl, _⟩ := h; rfl) | (obtain ⟨_, _, rfl, _⟩ := h; rfl) | (obtain ⟨_, _, _, rfl, _⟩ := h; rfl) | (obtain ⟨_, _, _, _, rfl, _⟩ := h; rfl) | (obtain ⟨_, _, _, _, _, rfl, _⟩ := h; rfl) | (obtain ⟨_, _, _, _, _, _, rfl, _⟩ := h; rfl) | (obtain ⟨_, _, _, _, _, _, _, rfl, _⟩ := h; rfl) | (obtain ⟨_, _, _, _, _, _, _, _, rfl, _⟩ := h; rfl)) l_Queue_people
  obtain ⟨p21004TalliedQueue, f21004TalliedQueue, v21004TalliedQueue, F21004TalliedQueue, PP21004TalliedQueue⟩ := KM_Queue_people_TalliedQueue.at RL_TalliedQueue.ns
  have B21004TalliedQueue := F21004TalliedQueue.binds (ps := ["self"]) fun _ _ _ _ _ _ us hl => match us, hl with | [_], _ => rfl
  have W21004TalliedQueue := w_Queue_people (w := w) (P := l.prog) (base := base) (mg := mg) (b := (sackB (clsOf [("TooLarge", C_TooLarge), ("NoGroup", C_NoGroup), ("Busy", C_Busy), ("NoPerson", C_NoPerson), ("Absent", C_Absent), ("Empty", C_Empty), ("TooManyEdits", C_TooManyEdits), ("NoVersion", C_NoVersion), ("NoIndex", C_NoIndex), ("Scene", C_Scene), ("Queue", C_Queue), ("TalliedQueue", C_TalliedQueue)] fa) r l1)) (S := S_Queue_people) F21004TalliedQueue y_len FQ_scenes CL_Scene NA_Scene_groups (fun ds Q E h => by first | (simp only [S_Queue_people] at h; split at h <;> first | rfl | exact h.elim) | (obtain ⟨rfl, _⟩ := h; rfl) | (obtain ⟨_, rfl, _⟩ := h; rfl) | (obtain ⟨_, _, rfl, _⟩ := h; rfl) | (obtain ⟨_, _, _, rfl, _⟩ := h; rfl) | (obtain ⟨_, _, _, _, rfl, _⟩ := h; rfl) | (obtain ⟨_, _, _, _, _, rfl, _⟩ := h; rfl) | (obtain ⟨_, _, _, _, _, _, rfl, _⟩ := h; rfl) | (obtain ⟨_, _, _, _, _, _, _, rfl, _⟩ := h; rfl) | (obtain ⟨_, _, _, _, _, _, _, _, rfl, _⟩ := h; rfl)) l_Queue_people
  have C21004 : CalP l.prog w K mg base (sackB (clsOf [("TooLarge", C_TooLarge), ("NoGroup", C_NoGroup), ("Busy", C_Busy), ("NoPerson", C_NoPerson), ("Absent", C_Absent), ("Empty", C_Empty), ("TooManyEdits", C_TooManyEdits), ("NoVersion", C_NoVersion), ("NoIndex", C_NoIndex), ("Scene", C_Scene), ("Queue", C_Queue), ("TalliedQueue", C_TalliedQueue)] fa) r l1) 1 qNs "people" S_Queue_people := ⟨fun n hn => by
    simp only [qNs, List.mem_cons, List.not_mem_nil, or_false] at hn
    rcases hn with rfl | rfl
    · exact ⟨_, _, _, _, W21004Queue, CL_Queue, PP21004Queue, B21004Queue⟩
    · exact ⟨_, _, _, _, W21004TalliedQueue, CL_TalliedQueue, PP21004TalliedQueue, B21004TalliedQueue⟩⟩
  have C20001 : CalM l.prog w K mg base (sackB (clsOf [("TooLarge", C_TooLarge), ("NoGroup", C_NoGroup), ("Busy", C_Busy), ("NoPerson", C_NoPerson), ("Absent", C_Absent), ("Empty", C_Empty), ("TooManyEdits", C_TooManyEdits), ("NoVersion", C_NoVersion), ("NoIndex", C_NoIndex), ("Scene", C_Scene), ("Queue", C_Queue), ("TalliedQueue", C_TalliedQueue)] fa) r l1) 3 "Scene" "with_one" ["self", "group"] S_Scene_with_one := ⟨f20001, v20001, w_Scene_with_one F20001 C20000 y_len y_enumerate CL_Scene NA_Scene_groups NA_Scene_line NA_Scene_mated NA_Scene_passed NA_Scene_done NA_Scene_left NA_Scene_letters (fun ds Q E h => by first | (simp only [S_Scene_with_one] at h; split at h <;> first | rfl | exact h.elim) | (obtain ⟨rfl, _⟩ := h; rfl) | (obtain ⟨_, rfl, _⟩ := h; rfl) | (obtain ⟨_, _, rfl, _⟩ := h; rfl) | (obtain ⟨_, _, _, rfl, _⟩ := h; rfl) | (obtain ⟨_, _, _, _, rfl, _⟩ := h; rfl) | (obtain ⟨_, _, _, _, _, rfl, _⟩ := h; rfl) | (obtain ⟨_, _, _, _, _, _, rfl, _⟩ := h; rfl) | (obtain ⟨_, _, _, _, _, _, _, rfl, _⟩ := h; rfl)) l_Scene_with_one, CL_Scene, MT20001, B20001⟩
  obtain ⟨p21005Queue, f21005Queue, v21005Queue, F21005Queue, PP21005Queue⟩ := KM_Queue_length_Queue.at RL_Queue.ns
  have B21005Queue := F21005Queue.binds (ps := ["self"]) fun _ _ _ _ _ _ us hl => match us, hl with | [_], _ => rfl
  have W21005Queue := w_Queue_length (w := w) (P := l.prog) (base := base) (mg := mg) (b := (sackB (clsOf [("TooLarge", C_TooLarge), ("NoGroup", C_NoGroup), ("Busy", C_Busy), ("NoPerson", C_NoPerson), ("Absent", C_Absent), ("Empty", C_Empty), ("TooManyEdits", C_TooManyEdits), ("NoVersion", C_NoVersion), ("NoIndex", C_NoIndex), ("Scene", C_Scene), ("Queue", C_Queue), ("TalliedQueue", C_TalliedQueue)] fa) r l1)) (S := S_Queue_length) F21005Queue y_len FQ_scenes CL_Scene NA_Scene_line (fun ds Q E h => by first | (simp only [S_Queue_length] at h; split at h <;> first | rfl | exact h.elim) | (obtain ⟨rfl, _⟩ := h; rfl) | (obtain ⟨_, rfl, _⟩ := h; rfl) | (obtain ⟨_, _, rfl, _⟩ := h; rfl) | (obtain ⟨_, _, _, rfl, _⟩ := h; rfl) | (obtain ⟨_, _, _, _, rfl, _⟩ := h; rfl) | (obtain ⟨_, _, _, _, _, rfl, _⟩ := h; rfl) | (obtain ⟨_, _, _, _, _, _, rfl, _⟩ := h; rfl) | (obtain ⟨_, _, _, _, _, _, _, rfl, _⟩ := h; rfl) | (obtain ⟨_, _, _, _, _, _, _, _, rfl, _⟩ := h; rfl)) l_Queue_length
  obtain ⟨p21005TalliedQueue, f21005TalliedQueue, v21005TalliedQueue, F21005TalliedQueue, PP21005TalliedQueue⟩ := KM_Queue_length_TalliedQueue.at RL_TalliedQueue.ns
  have B21005TalliedQueue := F21005TalliedQueue.binds (ps := ["self"]) fun _ _ _ _ _ _ us hl => match us, hl with | [_], _ => rfl
  have W21005TalliedQueue := w_Queue_length (w := w) (P := l.prog) (base := base) (mg := mg) (b := (sackB (clsOf [("TooLarge", C_TooLarge), ("NoGroup", C_NoGroup), ("Busy", C_Busy), ("NoPerson", C_NoPerson), ("Absent", C_Absent), ("Empty", C_Empty), ("TooManyEdits", C_TooManyEdits), ("NoVersion", C_NoVersion), ("NoIndex", C_NoIndex), ("Scene", C_Scene), ("Queue", C_Queue), ("TalliedQueue", C_TalliedQueue)] fa) r l1)) (S := S_Queue_length) F21005TalliedQueue y_len FQ_scenes CL_Scene NA_Scene_line (fun ds Q E h => by first | (simp only [S_Queue_length] at h; split at h <;> first | rfl | exact h.elim) | (obtain ⟨rfl, _⟩ := h; rfl) | (obtain ⟨_, rfl, _⟩ := h; rfl) | (obtain ⟨_, _, rfl, _⟩ := h; rfl) | (obtain ⟨_, _, _, rfl, _⟩ := h; rfl) | (obtain ⟨_, _, _, _, rfl, _⟩ := h; rfl) | (obtain ⟨_, _, _, _, _, rfl, _⟩ := h; rfl) | (obtain ⟨_, _, _, _, _, _, rfl, _⟩ := h; rfl) | (obtain ⟨_, _, _, _, _, _, _, rfl, _⟩ := h; rfl) | (obtain ⟨_, _, _, _, _, _, _, _, rfl, _⟩ := h; rfl)) l_Queue_length
  have C21005 : CalP l.prog w K mg base (sackB (clsOf [("TooLarge", C_TooLarge), ("NoGroup", C_NoGroup), ("Busy", C_Busy), ("NoPerson", C_NoPerson), ("Absent", C_Absent), ("Empty", C_Empty), ("TooManyEdits", C_TooManyEdits), ("NoVersion", C_NoVersion), ("NoIndex", C_NoIndex), ("Scene", C_Scene), ("Queue", C_Queue), ("TalliedQueue", C_TalliedQueue)] fa) r l1) 1 qNs "length" S_Queue_length := ⟨fun n hn => by
    simp only [qNs, List.mem_cons, List.not_mem_nil, or_false] at hn
    rcases hn with rfl | rfl
    · exact ⟨_, _, _, _, W21005Queue, CL_Queue, PP21005Queue, B21005Queue⟩
    · exact ⟨_, _, _, _, W21005TalliedQueue, CL_TalliedQueue, PP21005TalliedQueue, B21005TalliedQueue⟩⟩
  have C20002 : CalM l.prog w K mg base (sackB (clsOf [("TooLarge", C_TooLarge), ("NoGroup", C_NoGroup), ("Busy", C_Busy), ("NoPerson", C_NoPerson), ("Absent", C_Absent), ("Empty", C_Empty), ("TooManyEdits", C_TooManyEdits), ("NoVersion", C_NoVersion), ("NoIndex", C_NoIndex), ("Scene", C_Scene), ("Queue", C_Queue), ("TalliedQueue", C_TalliedQueue)] fa) r l1) 3 "Scene" "with_service" ["self"] S_Scene_with_service := ⟨f20002, v20002, w_Scene_with_service F20002 C20000 CL_Scene NA_Scene_done NA_Scene_line NA_Scene_groups NA_Scene_left NA_Scene_mated NA_Scene_passed NA_Scene_letters (fun ds Q E h => by first | (simp only [S_Scene_with_service] at h; split at h <;> first | rfl | exact h.elim) | (obtain ⟨rfl, _⟩ := h; rfl) | (obtain ⟨_, rfl, _⟩ := h; rfl) | (obtain ⟨_, _, rfl, _⟩ := h; rfl) | (obtain ⟨_, _, _, rfl, _⟩ := h; rfl) | (obtain ⟨_, _, _, _, rfl, _⟩ := h; rfl) | (obtain ⟨_, _, _, _, _, rfl, _⟩ := h; rfl) | (obtain ⟨_, _, _, _, _, _, rfl, _⟩ := h; rfl) | (obtain ⟨_, _, _, _, _, _, _, rfl, _⟩ := h; rfl)) l_Scene_with_service, CL_Scene, MT20002, B20002⟩
  obtain ⟨f21008Queue, v21008Queue, F21008Queue, MT21008Queue⟩ := KM_Queue_require_waiting_Queue.at RL_Queue.ns
  have B21008Queue := F21008Queue.binds (ps := ["self", "person"]) fun _ _ _ _ _ _ us hl => match us, hl with | [_, _], _ => rfl
  have W21008Queue := w_Queue_require_waiting (w := w) (P := l.prog) (base := base) (mg := mg) (b := (sackB (clsOf [("TooLarge", C_TooLarge), ("NoGroup", C_NoGroup), ("Busy", C_Busy), ("NoPerson", C_NoPerson), ("Absent", C_Absent), ("Empty", C_Empty), ("TooManyEdits", C_TooManyEdits), ("NoVersion", C_NoVersion), ("NoIndex", C_NoIndex), ("Scene", C_Scene), ("Queue", C_Queue), ("TalliedQueue", C_TalliedQueue)] fa) r l1)) (S := S_Queue_require_waiting) F21008Queue C18 C21004 M_NoPerson FQ_scenes CL_Scene NA_Scene_line M_Absent (fun ds Q E h => by first | (simp only [S_Queue_require_waiting] at h; split at h <;> first | rfl | exact h.elim) | (obtain ⟨rfl, _⟩ := h; rfl) | (obtain ⟨_, rfl, _⟩ := h; rfl) | (obtain ⟨_, _, rfl, _⟩ := h; rfl) | (obtain ⟨_, _, _, rfl, _⟩ := h; rfl) | (obtain ⟨_, _, _, _, rfl, _⟩ := h; rfl) | (obtain ⟨_, _, _, _, _, rfl, _⟩ := h; rfl) | (obtain ⟨_, _, _, _, _, _, rfl, _⟩ := h; rfl) | (obtain ⟨_, _, _, _, _, _, _, rfl, _⟩ := h; rfl) | (obtain ⟨_, _, _, _, _, _, _, _, rfl, _⟩ := h; rfl)) l_Queue_require_waiting
  obtain ⟨f21008TalliedQueue, v21008TalliedQueue, F21008TalliedQueue, MT21008TalliedQueue⟩ := KM_Queue_require_waiting_TalliedQueue.at RL_TalliedQueue.ns
  have B21008TalliedQueue := F21008TalliedQueue.binds (ps := ["self", "person"]) fun _ _ _ _ _ _ us hl => match us, hl with | [_, _], _ => rfl
  have W21008TalliedQueue := w_Queue_require_waiting (w := w) (P := l.prog) (base := base) (mg := mg) (b := (sackB (clsOf [("TooLarge", C_TooLarge), ("NoGroup", C_NoGroup), ("Busy", C_Busy), ("NoPerson", C_NoPerson), ("Absent", C_Absent), ("Empty", C_Empty), ("TooManyEdits", C_TooManyEdits), ("NoVersion", C_NoVersion), ("NoIndex", C_NoIndex), ("Scene", C_Scene), ("Queue", C_Queue), ("TalliedQueue", C_TalliedQueue)] fa) r l1)) (S := S_Queue_require_waiting) F21008TalliedQueue C18 C21004 M_NoPerson FQ_scenes CL_Scene NA_Scene_line M_Absent (fun ds Q E h => by first | (simp only [S_Queue_require_waiting] at h; split at h <;> first | rfl | exact h.elim) | (obtain ⟨rfl, _⟩ := h; rfl) | (obtain ⟨_, rfl, _⟩ := h; rfl) | (obtain ⟨_, _, rfl, _⟩ := h; rfl) | (obtain ⟨_, _, _, rfl, _⟩ := h; rfl) | (obtain ⟨_, _, _, _, rfl, _⟩ := h; rfl) | (obtain ⟨_, _, _, _, _, rfl, _⟩ := h; rfl) | (obtain ⟨_, _, _, _, _, _, rfl, _⟩ := h; rfl) | (obtain ⟨_, _, _, _, _, _, _, rfl, _⟩ := h; rfl) | (obtain ⟨_, _, _, _, _, _, _, _, rfl, _⟩ := h; rfl)) l_Queue_require_waiting
  have C21008 : CalQ l.prog w K mg base (sackB (clsOf [("TooLarge", C_TooLarge), ("NoGroup", C_NoGroup), ("Busy", C_Busy), ("NoPerson", C_NoPerson), ("Absent", C_Absent), ("Empty", C_Empty), ("TooManyEdits", C_TooManyEdits), ("NoVersion", C_NoVersion), ("NoIndex", C_NoIndex), ("Scene", C_Scene), ("Queue", C_Queue), ("TalliedQueue", C_TalliedQueue)] fa) r l1) 3 qNs "require_waiting" (fun _ => S_Queue_require_waiting) := ⟨fun n hn => by
    simp only [qNs, List.mem_cons, List.not_mem_nil, or_false] at hn
    rcases hn with rfl | rfl
    · exact ⟨_, fnR0 W21008Queue B21008Queue, CL_Queue, MT21008Queue⟩
    · exact ⟨_, fnR0 W21008TalliedQueue B21008TalliedQueue, CL_TalliedQueue, MT21008TalliedQueue⟩⟩
  have C20003 : CalM l.prog w K mg base (sackB (clsOf [("TooLarge", C_TooLarge), ("NoGroup", C_NoGroup), ("Busy", C_Busy), ("NoPerson", C_NoPerson), ("Absent", C_Absent), ("Empty", C_Empty), ("TooManyEdits", C_TooManyEdits), ("NoVersion", C_NoVersion), ("NoIndex", C_NoIndex), ("Scene", C_Scene), ("Queue", C_Queue), ("TalliedQueue", C_TalliedQueue)] fa) r l1) 3 "Scene" "without_one" ["self", "person"] S_Scene_without_one := ⟨f20003, v20003, w_Scene_without_one F20003 C20000 y_tuple CL_Scene NA_Scene_line NA_Scene_groups NA_Scene_done NA_Scene_left NA_Scene_mated NA_Scene_passed NA_Scene_letters (fun ds Q E h => by first | (simp only [S_Scene_without_one] at h; split at h <;> first | rfl | exact h.elim) | (obtain ⟨rfl, _⟩ := h; rfl) | (obtain ⟨_, rfl, _⟩ := h; rfl) | (obtain ⟨_, _, rfl, _⟩ := h; rfl) | (obtain ⟨_, _, _, rfl, _⟩ := h; rfl) | (obtain ⟨_, _, _, _, rfl, _⟩ := h; rfl) | (obtain ⟨_, _, _, _, _, rfl, _⟩ := h; rfl) | (obtain ⟨_, _, _, _, _, _, rfl, _⟩ := h; rfl) | (obtain ⟨_, _, _, _, _, _, _, rfl, _⟩ := h; rfl)) l_Scene_without_one, CL_Scene, MT20003, B20003⟩
  obtain ⟨f21009Queue, v21009Queue, F21009Queue, MT21009Queue⟩ := KM_Queue_scene_after_Queue.at RL_Queue.ns
  have B21009Queue := F21009Queue.binds (ps := ["self", "edit"]) fun _ _ _ _ _ _ us hl => match us, hl with | [_, _], _ => rfl
  have W21009Queue := w_Queue_scene_after (w := w) (P := l.prog) (base := base) (mg := mg) (b := (sackB (clsOf [("TooLarge", C_TooLarge), ("NoGroup", C_NoGroup), ("Busy", C_Busy), ("NoPerson", C_NoPerson), ("Absent", C_Absent), ("Empty", C_Empty), ("TooManyEdits", C_TooManyEdits), ("NoVersion", C_NoVersion), ("NoIndex", C_NoIndex), ("Scene", C_Scene), ("Queue", C_Queue), ("TalliedQueue", C_TalliedQueue)] fa) r l1)) (S := S_Queue_scene_after) F21009Queue C21003 C21004 C20001 C21005 C20002 C21008 C20003 ⟨_, c1⟩ ⟨_, c2⟩ ⟨_, c3⟩ M_NoGroup M_TooLarge FQ_scenes M_Empty (fun ds Q E h => by first | (simp only [S_Queue_scene_after] at h; split at h <;> first | rfl | exact h.elim) | (obtain ⟨rfl, _⟩ := h; rfl) | (obtain ⟨_, rfl, _⟩ := h; rfl) | (obtain ⟨_, _, rfl, _⟩ := h; rfl) | (obtain ⟨_, _, _, rfl, _⟩ := h; rfl) | (obtain ⟨_, _, _, _, rfl, _⟩ := h; rfl) | (obtain ⟨_, _, _, _, _, rfl, _⟩ := h; rfl) | (obtain ⟨_, _, _, _, _, _, rfl, _⟩ := h; rfl) | (obtain ⟨_, _, _, _, _, _, _, rfl, _⟩ := h; rfl) | (obtain ⟨_, _, _, _, _, _, _, _, rfl, _⟩ := h; rfl)) l_Queue_scene_after
  obtain ⟨f21009TalliedQueue, v21009TalliedQueue, F21009TalliedQueue, MT21009TalliedQueue⟩ := KM_Queue_scene_after_TalliedQueue.at RL_TalliedQueue.ns
  have B21009TalliedQueue := F21009TalliedQueue.binds (ps := ["self", "edit"]) fun _ _ _ _ _ _ us hl => match us, hl with | [_, _], _ => rfl
  have W21009TalliedQueue := w_Queue_scene_after (w := w) (P := l.prog) (base := base) (mg := mg) (b := (sackB (clsOf [("TooLarge", C_TooLarge), ("NoGroup", C_NoGroup), ("Busy", C_Busy), ("NoPerson", C_NoPerson), ("Absent", C_Absent), ("Empty", C_Empty), ("TooManyEdits", C_TooManyEdits), ("NoVersion", C_NoVersion), ("NoIndex", C_NoIndex), ("Scene", C_Scene), ("Queue", C_Queue), ("TalliedQueue", C_TalliedQueue)] fa) r l1)) (S := S_Queue_scene_after) F21009TalliedQueue C21003 C21004 C20001 C21005 C20002 C21008 C20003 ⟨_, c1⟩ ⟨_, c2⟩ ⟨_, c3⟩ M_NoGroup M_TooLarge FQ_scenes M_Empty (fun ds Q E h => by first | (simp only [S_Queue_scene_after] at h; split at h <;> first | rfl | exact h.elim) | (obtain ⟨rfl, _⟩ := h; rfl) | (obtain ⟨_, rfl, _⟩ := h; rfl) | (obtain ⟨_, _, rfl, _⟩ := h; rfl) | (obtain ⟨_, _, _, rfl, _⟩ := h; rfl) | (obtain ⟨_, _, _, _, rfl, _⟩ := h; rfl) | (obtain ⟨_, _, _, _, _, rfl, _⟩ := h; rfl) | (obtain ⟨_, _, _, _, _, _, rfl, _⟩ := h; rfl) | (obtain ⟨_, _, _, _, _, _, _, rfl, _⟩ := h; rfl) | (obtain ⟨_, _, _, _, _, _, _, _, rfl, _⟩ := h; rfl)) l_Queue_scene_after
  have C21009 : CalQ l.prog w K mg base (sackB (clsOf [("TooLarge", C_TooLarge), ("NoGroup", C_NoGroup), ("Busy", C_Busy), ("NoPerson", C_NoPerson), ("Absent", C_Absent), ("Empty", C_Empty), ("TooManyEdits", C_TooManyEdits), ("NoVersion", C_NoVersion), ("NoIndex", C_NoIndex), ("Scene", C_Scene), ("Queue", C_Queue), ("TalliedQueue", C_TalliedQueue)] fa) r l1) 4 qNs "scene_after" (fun _ => S_Queue_scene_after) := ⟨fun n hn => by
    simp only [qNs, List.mem_cons, List.not_mem_nil, or_false] at hn
    rcases hn with rfl | rfl
    · exact ⟨_, fnR0 W21009Queue B21009Queue, CL_Queue, MT21009Queue⟩
    · exact ⟨_, fnR0 W21009TalliedQueue B21009TalliedQueue, CL_TalliedQueue, MT21009TalliedQueue⟩⟩
  obtain ⟨f21010Queue, v21010Queue, F21010Queue, MT21010Queue⟩ := KM_Queue_perform_Queue.at RL_Queue.ns
  have B21010Queue := F21010Queue.binds (ps := ["self", "edit"]) fun _ _ _ _ _ _ us hl => match us, hl with | [_, _], _ => rfl
  have W21010Queue := w_Queue_perform (w := w) (P := l.prog) (base := base) (mg := mg) (b := (sackB (clsOf [("TooLarge", C_TooLarge), ("NoGroup", C_NoGroup), ("Busy", C_Busy), ("NoPerson", C_NoPerson), ("Absent", C_Absent), ("Empty", C_Empty), ("TooManyEdits", C_TooManyEdits), ("NoVersion", C_NoVersion), ("NoIndex", C_NoIndex), ("Scene", C_Scene), ("Queue", C_Queue), ("TalliedQueue", C_TalliedQueue)] fa) r l1)) (S := S_Queue_perform) F21010Queue C21009 y_len FQ_kept FC_LIMIT M_TooManyEdits FQ_scenes (fun x n fs ds1 ds2 Q E h => by first | (obtain ⟨_, rfl, rfl, rfl, _⟩ := h; rfl) | (obtain ⟨_, _, rfl, rfl, rfl, _⟩ := h; rfl) | (obtain ⟨_, _, _, rfl, rfl, rfl, _⟩ := h; rfl) | (obtain ⟨_, _, _, _, rfl, rfl, rfl, _⟩ := h; rfl) | (obtain ⟨_, _, _, _, _, rfl, rfl, rfl, _⟩ := h; rfl) | (obtain ⟨_, _, _, _, _, _, rfl, rfl, rfl, _⟩ := h; rfl) | (obtain ⟨_, _, _, _, _, _, _, rfl, rfl, rfl, _⟩ := h; rfl) | (obtain ⟨_, _, _, _, _, _, _, _, rfl, rfl, rfl, _⟩ := h; rfl) | (obtain ⟨_, _, _, _, _, _, _, _, _, rfl, rfl, rfl, _⟩ := h; rfl)) l_Queue_perform
  obtain ⟨f21010TalliedQueue, v21010TalliedQueue, F21010TalliedQueue, MT21010TalliedQueue⟩ := KM_Queue_perform_TalliedQueue.at RL_TalliedQueue.ns
  have B21010TalliedQueue := F21010TalliedQueue.binds (ps := ["self", "edit"]) fun _ _ _ _ _ _ us hl => match us, hl with | [_, _], _ => rfl
  have W21010TalliedQueue := w_Queue_perform (w := w) (P := l.prog) (base := base) (mg := mg) (b := (sackB (clsOf [("TooLarge", C_TooLarge), ("NoGroup", C_NoGroup), ("Busy", C_Busy), ("NoPerson", C_NoPerson), ("Absent", C_Absent), ("Empty", C_Empty), ("TooManyEdits", C_TooManyEdits), ("NoVersion", C_NoVersion), ("NoIndex", C_NoIndex), ("Scene", C_Scene), ("Queue", C_Queue), ("TalliedQueue", C_TalliedQueue)] fa) r l1)) (S := S_Queue_perform) F21010TalliedQueue C21009 y_len FQ_kept FC_LIMIT M_TooManyEdits FQ_scenes (fun x n fs ds1 ds2 Q E h => by first | (obtain ⟨_, rfl, rfl, rfl, _⟩ := h; rfl) | (obtain ⟨_, _, rfl, rfl, rfl, _⟩ := h; rfl) | (obtain ⟨_, _, _, rfl, rfl, rfl, _⟩ := h; rfl) | (obtain ⟨_, _, _, _, rfl, rfl, rfl, _⟩ := h; rfl) | (obtain ⟨_, _, _, _, _, rfl, rfl, rfl, _⟩ := h; rfl) | (obtain ⟨_, _, _, _, _, _, rfl, rfl, rfl, _⟩ := h; rfl) | (obtain ⟨_, _, _, _, _, _, _, rfl, rfl, rfl, _⟩ := h; rfl) | (obtain ⟨_, _, _, _, _, _, _, _, rfl, rfl, rfl, _⟩ := h; rfl) | (obtain ⟨_, _, _, _, _, _, _, _, _, rfl, rfl, rfl, _⟩ := h; rfl)) l_Queue_perform
  have C21010 : CalX l.prog w K mg base (sackB (clsOf [("TooLarge", C_TooLarge), ("NoGroup", C_NoGroup), ("Busy", C_Busy), ("NoPerson", C_NoPerson), ("Absent", C_Absent), ("Empty", C_Empty), ("TooManyEdits", C_TooManyEdits), ("NoVersion", C_NoVersion), ("NoIndex", C_NoIndex), ("Scene", C_Scene), ("Queue", C_Queue), ("TalliedQueue", C_TalliedQueue)] fa) r l1) 5 qNs "perform" (fun _ => S_Queue_perform) := ⟨fun n hn => by
    simp only [qNs, List.mem_cons, List.not_mem_nil, or_false] at hn
    rcases hn with rfl | rfl
    · exact ⟨_, fnR0 W21010Queue B21010Queue, CL_Queue, MT21010Queue⟩
    · exact ⟨_, fnR0 W21010TalliedQueue B21010TalliedQueue, CL_TalliedQueue, MT21010TalliedQueue⟩⟩
  obtain ⟨f21011Queue, v21011Queue, F21011Queue, MT21011Queue⟩ := KM_Queue_arrive_Queue.at RL_Queue.ns
  have B21011Queue := F21011Queue.binds (ps := ["self", "group"]) fun _ _ _ _ _ _ us hl => match us, hl with | [_, _], _ => rfl
  have W21011Queue := w_Queue_arrive (w := w) (P := l.prog) (base := base) (mg := mg) (b := (sackB (clsOf [("TooLarge", C_TooLarge), ("NoGroup", C_NoGroup), ("Busy", C_Busy), ("NoPerson", C_NoPerson), ("Absent", C_Absent), ("Empty", C_Empty), ("TooManyEdits", C_TooManyEdits), ("NoVersion", C_NoVersion), ("NoIndex", C_NoIndex), ("Scene", C_Scene), ("Queue", C_Queue), ("TalliedQueue", C_TalliedQueue)] fa) r l1)) (S := S_Queue_arrive) F21011Queue C21007 C21010 ⟨_, c1⟩ (fun x n fs ds1 ds2 Q E h => by first | (obtain ⟨_, rfl, rfl, rfl, _⟩ := h; rfl) | (obtain ⟨_, _, rfl, rfl, rfl, _⟩ := h; rfl) | (obtain ⟨_, _, _, rfl, rfl, rfl, _⟩ := h; rfl) | (obtain ⟨_, _, _, _, rfl, rfl, rfl, _⟩ := h; rfl) | (obtain ⟨_, _, _, _, _, rfl, rfl, rfl, _⟩ := h; rfl) | (obtain ⟨_, _, _, _, _, _, rfl, rfl, rfl, _⟩ := h; rfl) | (obtain ⟨_, _, _, _, _, _, _, rfl, rfl, rfl, _⟩ := h; rfl) | (obtain ⟨_, _, _, _, _, _, _, _, rfl, rfl, rfl, _⟩ := h; rfl) | (obtain ⟨_, _, _, _, _, _, _, _, _, rfl, rfl, rfl, _⟩ := h; rfl)) l_Queue_arrive
  obtain ⟨f21011TalliedQueue, v21011TalliedQueue, F21011TalliedQueue, MT21011TalliedQueue⟩ := KM_Queue_arrive_TalliedQueue.at RL_TalliedQueue.ns
  have B21011TalliedQueue := F21011TalliedQueue.binds (ps := ["self", "group"]) fun _ _ _ _ _ _ us hl => match us, hl with | [_, _], _ => rfl
  have W21011TalliedQueue := w_Queue_arrive (w := w) (P := l.prog) (base := base) (mg := mg) (b := (sackB (clsOf [("TooLarge", C_TooLarge), ("NoGroup", C_NoGroup), ("Busy", C_Busy), ("NoPerson", C_NoPerson), ("Absent", C_Absent), ("Empty", C_Empty), ("TooManyEdits", C_TooManyEdits), ("NoVersion", C_NoVersion), ("NoIndex", C_NoIndex), ("Scene", C_Scene), ("Queue", C_Queue), ("TalliedQueue", C_TalliedQueue)] fa) r l1)) (S := S_Queue_arrive) F21011TalliedQueue C21007 C21010 ⟨_, c1⟩ (fun x n fs ds1 ds2 Q E h => by first | (obtain ⟨_, rfl, rfl, rfl, _⟩ := h; rfl) | (obtain ⟨_, _, rfl, rfl, rfl, _⟩ := h; rfl) | (obtain ⟨_, _, _, rfl, rfl, rfl, _⟩ := h; rfl) | (obtain ⟨_, _, _, _, rfl, rfl, rfl, _⟩ := h; rfl) | (obtain ⟨_, _, _, _, _, rfl, rfl, rfl, _⟩ := h; rfl) | (obtain ⟨_, _, _, _, _, _, rfl, rfl, rfl, _⟩ := h; rfl) | (obtain ⟨_, _, _, _, _, _, _, rfl, rfl, rfl, _⟩ := h; rfl) | (obtain ⟨_, _, _, _, _, _, _, _, rfl, rfl, rfl, _⟩ := h; rfl) | (obtain ⟨_, _, _, _, _, _, _, _, _, rfl, rfl, rfl, _⟩ := h; rfl)) l_Queue_arrive
  have C21011 : CalX l.prog w K mg base (sackB (clsOf [("TooLarge", C_TooLarge), ("NoGroup", C_NoGroup), ("Busy", C_Busy), ("NoPerson", C_NoPerson), ("Absent", C_Absent), ("Empty", C_Empty), ("TooManyEdits", C_TooManyEdits), ("NoVersion", C_NoVersion), ("NoIndex", C_NoIndex), ("Scene", C_Scene), ("Queue", C_Queue), ("TalliedQueue", C_TalliedQueue)] fa) r l1) 6 qNs "arrive" (fun _ => S_Queue_arrive) := ⟨fun n hn => by
    simp only [qNs, List.mem_cons, List.not_mem_nil, or_false] at hn
    rcases hn with rfl | rfl
    · exact ⟨_, fnR0 W21011Queue B21011Queue, CL_Queue, MT21011Queue⟩
    · exact ⟨_, fnR0 W21011TalliedQueue B21011TalliedQueue, CL_TalliedQueue, MT21011TalliedQueue⟩⟩
  obtain ⟨f21012Queue, v21012Queue, F21012Queue, MT21012Queue⟩ := KM_Queue_serve_Queue.at RL_Queue.ns
  have B21012Queue := F21012Queue.binds (ps := ["self"]) fun _ _ _ _ _ _ us hl => match us, hl with | [_], _ => rfl
  have W21012Queue := w_Queue_serve (w := w) (P := l.prog) (base := base) (mg := mg) (b := (sackB (clsOf [("TooLarge", C_TooLarge), ("NoGroup", C_NoGroup), ("Busy", C_Busy), ("NoPerson", C_NoPerson), ("Absent", C_Absent), ("Empty", C_Empty), ("TooManyEdits", C_TooManyEdits), ("NoVersion", C_NoVersion), ("NoIndex", C_NoIndex), ("Scene", C_Scene), ("Queue", C_Queue), ("TalliedQueue", C_TalliedQueue)] fa) r l1)) (S := S_Queue_serve) F21012Queue C21007 C21010 ⟨_, c3⟩ (fun x n fs ds1 ds2 Q E h => by first | (obtain ⟨_, rfl, rfl, rfl, _⟩ := h; rfl) | (obtain ⟨_, _, rfl, rfl, rfl, _⟩ := h; rfl) | (obtain ⟨_, _, _, rfl, rfl, rfl, _⟩ := h; rfl) | (obtain ⟨_, _, _, _, rfl, rfl, rfl, _⟩ := h; rfl) | (obtain ⟨_, _, _, _, _, rfl, rfl, rfl, _⟩ := h; rfl) | (obtain ⟨_, _, _, _, _, _, rfl, rfl, rfl, _⟩ := h; rfl) | (obtain ⟨_, _, _, _, _, _, _, rfl, rfl, rfl, _⟩ := h; rfl) | (obtain ⟨_, _, _, _, _, _, _, _, rfl, rfl, rfl, _⟩ := h; rfl) | (obtain ⟨_, _, _, _, _, _, _, _, _, rfl, rfl, rfl, _⟩ := h; rfl)) l_Queue_serve
  obtain ⟨f21012TalliedQueue, v21012TalliedQueue, F21012TalliedQueue, MT21012TalliedQueue⟩ := KM_Queue_serve_TalliedQueue.at RL_TalliedQueue.ns
  have B21012TalliedQueue := F21012TalliedQueue.binds (ps := ["self"]) fun _ _ _ _ _ _ us hl => match us, hl with | [_], _ => rfl
  have W21012TalliedQueue := w_Queue_serve (w := w) (P := l.prog) (base := base) (mg := mg) (b := (sackB (clsOf [("TooLarge", C_TooLarge), ("NoGroup", C_NoGroup), ("Busy", C_Busy), ("NoPerson", C_NoPerson), ("Absent", C_Absent), ("Empty", C_Empty), ("TooManyEdits", C_TooManyEdits), ("NoVersion", C_NoVersion), ("NoIndex", C_NoIndex), ("Scene", C_Scene), ("Queue", C_Queue), ("TalliedQueue", C_TalliedQueue)] fa) r l1)) (S := S_Queue_serve) F21012TalliedQueue C21007 C21010 ⟨_, c3⟩ (fun x n fs ds1 ds2 Q E h => by first | (obtain ⟨_, rfl, rfl, rfl, _⟩ := h; rfl) | (obtain ⟨_, _, rfl, rfl, rfl, _⟩ := h; rfl) | (obtain ⟨_, _, _, rfl, rfl, rfl, _⟩ := h; rfl) | (obtain ⟨_, _, _, _, rfl, rfl, rfl, _⟩ := h; rfl) | (obtain ⟨_, _, _, _, _, rfl, rfl, rfl, _⟩ := h; rfl) | (obtain ⟨_, _, _, _, _, _, rfl, rfl, rfl, _⟩ := h; rfl) | (obtain ⟨_, _, _, _, _, _, _, rfl, rfl, rfl, _⟩ := h; rfl) | (obtain ⟨_, _, _, _, _, _, _, _, rfl, rfl, rfl, _⟩ := h; rfl) | (obtain ⟨_, _, _, _, _, _, _, _, _, rfl, rfl, rfl, _⟩ := h; rfl)) l_Queue_serve
  have C21012 : CalX l.prog w K mg base (sackB (clsOf [("TooLarge", C_TooLarge), ("NoGroup", C_NoGroup), ("Busy", C_Busy), ("NoPerson", C_NoPerson), ("Absent", C_Absent), ("Empty", C_Empty), ("TooManyEdits", C_TooManyEdits), ("NoVersion", C_NoVersion), ("NoIndex", C_NoIndex), ("Scene", C_Scene), ("Queue", C_Queue), ("TalliedQueue", C_TalliedQueue)] fa) r l1) 6 qNs "serve" (fun _ => S_Queue_serve) := ⟨fun n hn => by
    simp only [qNs, List.mem_cons, List.not_mem_nil, or_false] at hn
    rcases hn with rfl | rfl
    · exact ⟨_, fnR0 W21012Queue B21012Queue, CL_Queue, MT21012Queue⟩
    · exact ⟨_, fnR0 W21012TalliedQueue B21012TalliedQueue, CL_TalliedQueue, MT21012TalliedQueue⟩⟩
  obtain ⟨f21013Queue, v21013Queue, F21013Queue, MT21013Queue⟩ := KM_Queue_go_away_Queue.at RL_Queue.ns
  have B21013Queue := F21013Queue.binds (ps := ["self", "person"]) fun _ _ _ _ _ _ us hl => match us, hl with | [_, _], _ => rfl
  have W21013Queue := w_Queue_go_away (w := w) (P := l.prog) (base := base) (mg := mg) (b := (sackB (clsOf [("TooLarge", C_TooLarge), ("NoGroup", C_NoGroup), ("Busy", C_Busy), ("NoPerson", C_NoPerson), ("Absent", C_Absent), ("Empty", C_Empty), ("TooManyEdits", C_TooManyEdits), ("NoVersion", C_NoVersion), ("NoIndex", C_NoIndex), ("Scene", C_Scene), ("Queue", C_Queue), ("TalliedQueue", C_TalliedQueue)] fa) r l1)) (S := S_Queue_go_away) F21013Queue C21007 C21010 ⟨_, c4⟩ (fun x n fs ds1 ds2 Q E h => by first | (obtain ⟨_, rfl, rfl, rfl, _⟩ := h; rfl) | (obtain ⟨_, _, rfl, rfl, rfl, _⟩ := h; rfl) | (obtain ⟨_, _, _, rfl, rfl, rfl, _⟩ := h; rfl) | (obtain ⟨_, _, _, _, rfl, rfl, rfl, _⟩ := h; rfl) | (obtain ⟨_, _, _, _, _, rfl, rfl, rfl, _⟩ := h; rfl) | (obtain ⟨_, _, _, _, _, _, rfl, rfl, rfl, _⟩ := h; rfl) | (obtain ⟨_, _, _, _, _, _, _, rfl, rfl, rfl, _⟩ := h; rfl) | (obtain ⟨_, _, _, _, _, _, _, _, rfl, rfl, rfl, _⟩ := h; rfl) | (obtain ⟨_, _, _, _, _, _, _, _, _, rfl, rfl, rfl, _⟩ := h; rfl)) l_Queue_go_away
  obtain ⟨f21013TalliedQueue, v21013TalliedQueue, F21013TalliedQueue, MT21013TalliedQueue⟩ := KM_Queue_go_away_TalliedQueue.at RL_TalliedQueue.ns
  have B21013TalliedQueue := F21013TalliedQueue.binds (ps := ["self", "person"]) fun _ _ _ _ _ _ us hl => match us, hl with | [_, _], _ => rfl
  have W21013TalliedQueue := w_Queue_go_away (w := w) (P := l.prog) (base := base) (mg := mg) (b := (sackB (clsOf [("TooLarge", C_TooLarge), ("NoGroup", C_NoGroup), ("Busy", C_Busy), ("NoPerson", C_NoPerson), ("Absent", C_Absent), ("Empty", C_Empty), ("TooManyEdits", C_TooManyEdits), ("NoVersion", C_NoVersion), ("NoIndex", C_NoIndex), ("Scene", C_Scene), ("Queue", C_Queue), ("TalliedQueue", C_TalliedQueue)] fa) r l1)) (S := S_Queue_go_away) F21013TalliedQueue C21007 C21010 ⟨_, c4⟩ (fun x n fs ds1 ds2 Q E h => by first | (obtain ⟨_, rfl, rfl, rfl, _⟩ := h; rfl) | (obtain ⟨_, _, rfl, rfl, rfl, _⟩ := h; rfl) | (obtain ⟨_, _, _, rfl, rfl, rfl, _⟩ := h; rfl) | (obtain ⟨_, _, _, _, rfl, rfl, rfl, _⟩ := h; rfl) | (obtain ⟨_, _, _, _, _, rfl, rfl, rfl, _⟩ := h; rfl) | (obtain ⟨_, _, _, _, _, _, rfl, rfl, rfl, _⟩ := h; rfl) | (obtain ⟨_, _, _, _, _, _, _, rfl, rfl, rfl, _⟩ := h; rfl) | (obtain ⟨_, _, _, _, _, _, _, _, rfl, rfl, rfl, _⟩ := h; rfl) | (obtain ⟨_, _, _, _, _, _, _, _, _, rfl, rfl, rfl, _⟩ := h; rfl)) l_Queue_go_away
  have C21013 : CalX l.prog w K mg base (sackB (clsOf [("TooLarge", C_TooLarge), ("NoGroup", C_NoGroup), ("Busy", C_Busy), ("NoPerson", C_NoPerson), ("Absent", C_Absent), ("Empty", C_Empty), ("TooManyEdits", C_TooManyEdits), ("NoVersion", C_NoVersion), ("NoIndex", C_NoIndex), ("Scene", C_Scene), ("Queue", C_Queue), ("TalliedQueue", C_TalliedQueue)] fa) r l1) 6 qNs "go_away" (fun _ => S_Queue_go_away) := ⟨fun n hn => by
    simp only [qNs, List.mem_cons, List.not_mem_nil, or_false] at hn
    rcases hn with rfl | rfl
    · exact ⟨_, fnR0 W21013Queue B21013Queue, CL_Queue, MT21013Queue⟩
    · exact ⟨_, fnR0 W21013TalliedQueue B21013TalliedQueue, CL_TalliedQueue, MT21013TalliedQueue⟩⟩
  have C30 : CalF l.prog w K mg base (sackB (clsOf [("TooLarge", C_TooLarge), ("NoGroup", C_NoGroup), ("Busy", C_Busy), ("NoPerson", C_NoPerson), ("Absent", C_Absent), ("Empty", C_Empty), ("TooManyEdits", C_TooManyEdits), ("NoVersion", C_NoVersion), ("NoIndex", C_NoIndex), ("Scene", C_Scene), ("Queue", C_Queue), ("TalliedQueue", C_TalliedQueue)] fa) r l1) 7 "_law_call" ["_law_queue", "_law_edit_here"] S_q_call := ⟨f30, v30, w_q_call F30 C21011 C21012 C21013 (fun x n fs ds1 ds2 Q E h => by first | (obtain ⟨_, rfl, rfl, rfl, _⟩ := h; rfl) | (obtain ⟨_, _, rfl, rfl, rfl, _⟩ := h; rfl) | (obtain ⟨_, _, _, rfl, rfl, rfl, _⟩ := h; rfl) | (obtain ⟨_, _, _, _, rfl, rfl, rfl, _⟩ := h; rfl) | (obtain ⟨_, _, _, _, _, rfl, rfl, rfl, _⟩ := h; rfl) | (obtain ⟨_, _, _, _, _, _, rfl, rfl, rfl, _⟩ := h; rfl) | (obtain ⟨_, _, _, _, _, _, _, rfl, rfl, rfl, _⟩ := h; rfl) | (obtain ⟨_, _, _, _, _, _, _, _, rfl, rfl, rfl, _⟩ := h; rfl) | (obtain ⟨_, _, _, _, _, _, _, _, _, rfl, rfl, rfl, _⟩ := h; rfl)) l_q_call, g30, p30, B30⟩
  have C34 : CalN l.prog w K mg base (sackB (clsOf [("TooLarge", C_TooLarge), ("NoGroup", C_NoGroup), ("Busy", C_Busy), ("NoPerson", C_NoPerson), ("Absent", C_Absent), ("Empty", C_Empty), ("TooManyEdits", C_TooManyEdits), ("NoVersion", C_NoVersion), ("NoIndex", C_NoIndex), ("Scene", C_Scene), ("Queue", C_Queue), ("TalliedQueue", C_TalliedQueue)] fa) r l1) 8 "_law_performed" ["_law_edits"] S_law_performed := ⟨f34, v34, w_law_performed F34 CK_TalliedQueue C30 (fun ds Q E h => by first | (simp only [S_law_performed] at h; split at h <;> first | rfl | exact h.elim) | (obtain ⟨rfl, _⟩ := h; rfl) | (obtain ⟨_, rfl, _⟩ := h; rfl) | (obtain ⟨_, _, rfl, _⟩ := h; rfl) | (obtain ⟨_, _, _, rfl, _⟩ := h; rfl) | (obtain ⟨_, _, _, _, rfl, _⟩ := h; rfl) | (obtain ⟨_, _, _, _, _, rfl, _⟩ := h; rfl) | (obtain ⟨_, _, _, _, _, _, rfl, _⟩ := h; rfl) | (obtain ⟨_, _, _, _, _, _, _, rfl, _⟩ := h; rfl) | (obtain ⟨_, _, _, _, _, _, _, _, rfl, _⟩ := h; rfl)) l_law_performed, g34, p34, B34⟩
  have C33 : Cal l.prog w K mg base (sackB (clsOf [("TooLarge", C_TooLarge), ("NoGroup", C_NoGroup), ("Busy", C_Busy), ("NoPerson", C_NoPerson), ("Absent", C_Absent), ("Empty", C_Empty), ("TooManyEdits", C_TooManyEdits), ("NoVersion", C_NoVersion), ("NoIndex", C_NoIndex), ("Scene", C_Scene), ("Queue", C_Queue), ("TalliedQueue", C_TalliedQueue)] fa) r l1) 1 "_law_with_others" ["_law_edits", "_law_kind"] S_law_with_others := ⟨f33, v33, w_law_with_others F33 y_len (fun ds Q E h => by first | (simp only [S_law_with_others] at h; split at h <;> first | rfl | exact h.elim) | (obtain ⟨rfl, _⟩ := h; rfl) | (obtain ⟨_, rfl, _⟩ := h; rfl) | (obtain ⟨_, _, rfl, _⟩ := h; rfl) | (obtain ⟨_, _, _, rfl, _⟩ := h; rfl) | (obtain ⟨_, _, _, _, rfl, _⟩ := h; rfl) | (obtain ⟨_, _, _, _, _, rfl, _⟩ := h; rfl) | (obtain ⟨_, _, _, _, _, _, rfl, _⟩ := h; rfl) | (obtain ⟨_, _, _, _, _, _, _, rfl, _⟩ := h; rfl)) l_law_with_others, g33, p33, B33⟩
  obtain ⟨p22001TalliedQueue, f22001TalliedQueue, v22001TalliedQueue, F22001TalliedQueue, PP22001TalliedQueue⟩ := KM_TalliedQueue_jumps_TalliedQueue.at RL_TalliedQueue.ns
  have B22001TalliedQueue := F22001TalliedQueue.binds (ps := ["self"]) fun _ _ _ _ _ _ us hl => match us, hl with | [_], _ => rfl
  have W22001TalliedQueue := w_TalliedQueue_jumps (w := w) (P := l.prog) (base := base) (mg := mg) (b := (sackB (clsOf [("TooLarge", C_TooLarge), ("NoGroup", C_NoGroup), ("Busy", C_Busy), ("NoPerson", C_NoPerson), ("Absent", C_Absent), ("Empty", C_Empty), ("TooManyEdits", C_TooManyEdits), ("NoVersion", C_NoVersion), ("NoIndex", C_NoIndex), ("Scene", C_Scene), ("Queue", C_Queue), ("TalliedQueue", C_TalliedQueue)] fa) r l1)) (S := S_TalliedQueue_jumps) F22001TalliedQueue FQ_scenes CL_Scene NA_Scene_passed (fun ds Q E h => by first | (simp only [S_TalliedQueue_jumps] at h; split at h <;> first | rfl | exact h.elim) | (obtain ⟨rfl, _⟩ := h; rfl) | (obtain ⟨_, rfl, _⟩ := h; rfl) | (obtain ⟨_, _, rfl, _⟩ := h; rfl) | (obtain ⟨_, _, _, rfl, _⟩ := h; rfl) | (obtain ⟨_, _, _, _, rfl, _⟩ := h; rfl) | (obtain ⟨_, _, _, _, _, rfl, _⟩ := h; rfl) | (obtain ⟨_, _, _, _, _, _, rfl, _⟩ := h; rfl) | (obtain ⟨_, _, _, _, _, _, _, rfl, _⟩ := h; rfl) | (obtain ⟨_, _, _, _, _, _, _, _, rfl, _⟩ := h; rfl)) l_TalliedQueue_jumps
  have C22001 : CalP l.prog w K mg base (sackB (clsOf [("TooLarge", C_TooLarge), ("NoGroup", C_NoGroup), ("Busy", C_Busy), ("NoPerson", C_NoPerson), ("Absent", C_Absent), ("Empty", C_Empty), ("TooManyEdits", C_TooManyEdits), ("NoVersion", C_NoVersion), ("NoIndex", C_NoIndex), ("Scene", C_Scene), ("Queue", C_Queue), ("TalliedQueue", C_TalliedQueue)] fa) r l1) 1 ["TalliedQueue"] "jumps" S_TalliedQueue_jumps := ⟨fun n hn => by
    simp only [List.mem_cons, List.not_mem_nil, or_false] at hn
    subst hn
    exact ⟨_, _, _, _, W22001TalliedQueue, CL_TalliedQueue, PP22001TalliedQueue, B22001TalliedQueue⟩⟩
  have C35 : Cal l.prog w K mg base (sackB (clsOf [("TooLarge", C_TooLarge), ("NoGroup", C_NoGroup), ("Busy", C_Busy), ("NoPerson", C_NoPerson), ("Absent", C_Absent), ("Empty", C_Empty), ("TooManyEdits", C_TooManyEdits), ("NoVersion", C_NoVersion), ("NoIndex", C_NoIndex), ("Scene", C_Scene), ("Queue", C_Queue), ("TalliedQueue", C_TalliedQueue)] fa) r l1) 1 "_law_passes" ["_law_order"] S_law_passes := ⟨f35, v35, w_law_passes F35 y_sum y_range y_len (fun ds Q E h => by first | (simp only [S_law_passes] at h; split at h <;> first | rfl | exact h.elim) | (obtain ⟨rfl, _⟩ := h; rfl) | (obtain ⟨_, rfl, _⟩ := h; rfl) | (obtain ⟨_, _, rfl, _⟩ := h; rfl) | (obtain ⟨_, _, _, rfl, _⟩ := h; rfl) | (obtain ⟨_, _, _, _, rfl, _⟩ := h; rfl) | (obtain ⟨_, _, _, _, _, rfl, _⟩ := h; rfl) | (obtain ⟨_, _, _, _, _, _, rfl, _⟩ := h; rfl) | (obtain ⟨_, _, _, _, _, _, _, rfl, _⟩ := h; rfl)) l_law_passes, g35, p35, B35⟩
  obtain ⟨f21020Queue, v21020Queue, F21020Queue, MT21020Queue⟩ := KM_Queue_scene_at_Queue.at RL_Queue.ns
  have B21020Queue := F21020Queue.binds (ps := ["self", "version"]) fun _ _ _ _ _ _ us hl => match us, hl with | [_, _], _ => rfl
  have W21020Queue := w_Queue_scene_at (w := w) (P := l.prog) (base := base) (mg := mg) (b := (sackB (clsOf [("TooLarge", C_TooLarge), ("NoGroup", C_NoGroup), ("Busy", C_Busy), ("NoPerson", C_NoPerson), ("Absent", C_Absent), ("Empty", C_Empty), ("TooManyEdits", C_TooManyEdits), ("NoVersion", C_NoVersion), ("NoIndex", C_NoIndex), ("Scene", C_Scene), ("Queue", C_Queue), ("TalliedQueue", C_TalliedQueue)] fa) r l1)) (S := S_Queue_scene_at) F21020Queue C18 y_len FQ_scenes FQ_kept M_NoVersion (fun ds Q E h => by first | (simp only [S_Queue_scene_at] at h; split at h <;> first | rfl | exact h.elim) | (obtain ⟨rfl, _⟩ := h; rfl) | (obtain ⟨_, rfl, _⟩ := h; rfl) | (obtain ⟨_, _, rfl, _⟩ := h; rfl) | (obtain ⟨_, _, _, rfl, _⟩ := h; rfl) | (obtain ⟨_, _, _, _, rfl, _⟩ := h; rfl) | (obtain ⟨_, _, _, _, _, rfl, _⟩ := h; rfl) | (obtain ⟨_, _, _, _, _, _, rfl, _⟩ := h; rfl) | (obtain ⟨_, _, _, _, _, _, _, rfl, _⟩ := h; rfl) | (obtain ⟨_, _, _, _, _, _, _, _, rfl, _⟩ := h; rfl)) l_Queue_scene_at
  obtain ⟨f21020TalliedQueue, v21020TalliedQueue, F21020TalliedQueue, MT21020TalliedQueue⟩ := KM_Queue_scene_at_TalliedQueue.at RL_TalliedQueue.ns
  have B21020TalliedQueue := F21020TalliedQueue.binds (ps := ["self", "version"]) fun _ _ _ _ _ _ us hl => match us, hl with | [_, _], _ => rfl
  have W21020TalliedQueue := w_Queue_scene_at (w := w) (P := l.prog) (base := base) (mg := mg) (b := (sackB (clsOf [("TooLarge", C_TooLarge), ("NoGroup", C_NoGroup), ("Busy", C_Busy), ("NoPerson", C_NoPerson), ("Absent", C_Absent), ("Empty", C_Empty), ("TooManyEdits", C_TooManyEdits), ("NoVersion", C_NoVersion), ("NoIndex", C_NoIndex), ("Scene", C_Scene), ("Queue", C_Queue), ("TalliedQueue", C_TalliedQueue)] fa) r l1)) (S := S_Queue_scene_at) F21020TalliedQueue C18 y_len FQ_scenes FQ_kept M_NoVersion (fun ds Q E h => by first | (simp only [S_Queue_scene_at] at h; split at h <;> first | rfl | exact h.elim) | (obtain ⟨rfl, _⟩ := h; rfl) | (obtain ⟨_, rfl, _⟩ := h; rfl) | (obtain ⟨_, _, rfl, _⟩ := h; rfl) | (obtain ⟨_, _, _, rfl, _⟩ := h; rfl) | (obtain ⟨_, _, _, _, rfl, _⟩ := h; rfl) | (obtain ⟨_, _, _, _, _, rfl, _⟩ := h; rfl) | (obtain ⟨_, _, _, _, _, _, rfl, _⟩ := h; rfl) | (obtain ⟨_, _, _, _, _, _, _, rfl, _⟩ := h; rfl) | (obtain ⟨_, _, _, _, _, _, _, _, rfl, _⟩ := h; rfl)) l_Queue_scene_at
  have C21020 : CalQ l.prog w K mg base (sackB (clsOf [("TooLarge", C_TooLarge), ("NoGroup", C_NoGroup), ("Busy", C_Busy), ("NoPerson", C_NoPerson), ("Absent", C_Absent), ("Empty", C_Empty), ("TooManyEdits", C_TooManyEdits), ("NoVersion", C_NoVersion), ("NoIndex", C_NoIndex), ("Scene", C_Scene), ("Queue", C_Queue), ("TalliedQueue", C_TalliedQueue)] fa) r l1) 3 qNs "scene_at" (fun _ => S_Queue_scene_at) := ⟨fun n hn => by
    simp only [qNs, List.mem_cons, List.not_mem_nil, or_false] at hn
    rcases hn with rfl | rfl
    · exact ⟨_, fnR0 W21020Queue B21020Queue, CL_Queue, MT21020Queue⟩
    · exact ⟨_, fnR0 W21020TalliedQueue B21020TalliedQueue, CL_TalliedQueue, MT21020TalliedQueue⟩⟩
  obtain ⟨f21023Queue, v21023Queue, F21023Queue, MT21023Queue, ds21023Queue, hv21023Queue, B21023Queue⟩ := KM_Queue_served_Queue.at (ps := ["self"]) RL_Queue.ns (fun _ _ _ _ _ _ us _ hl => match us, hl with | [_], _ => ⟨_, _, _, _, _, _, rfl, rfl, rfl⟩)
  have W21023Queue := w_Queue_served (w := w) (P := l.prog) (base := base) (mg := mg) (b := (sackB (clsOf [("TooLarge", C_TooLarge), ("NoGroup", C_NoGroup), ("Busy", C_Busy), ("NoPerson", C_NoPerson), ("Absent", C_Absent), ("Empty", C_Empty), ("TooManyEdits", C_TooManyEdits), ("NoVersion", C_NoVersion), ("NoIndex", C_NoIndex), ("Scene", C_Scene), ("Queue", C_Queue), ("TalliedQueue", C_TalliedQueue)] fa) r l1)) (S := S_Queue_served) F21023Queue C21020 CL_Scene NA_Scene_done (fun ds Q E h => by first | (simp only [S_Queue_served] at h; split at h <;> first | rfl | exact h.elim) | (obtain ⟨rfl, _⟩ := h; rfl) | (obtain ⟨_, rfl, _⟩ := h; rfl) | (obtain ⟨_, _, rfl, _⟩ := h; rfl) | (obtain ⟨_, _, _, rfl, _⟩ := h; rfl) | (obtain ⟨_, _, _, _, rfl, _⟩ := h; rfl) | (obtain ⟨_, _, _, _, _, rfl, _⟩ := h; rfl) | (obtain ⟨_, _, _, _, _, _, rfl, _⟩ := h; rfl) | (obtain ⟨_, _, _, _, _, _, _, rfl, _⟩ := h; rfl) | (obtain ⟨_, _, _, _, _, _, _, _, rfl, _⟩ := h; rfl)) l_Queue_served
  obtain ⟨f21023TalliedQueue, v21023TalliedQueue, F21023TalliedQueue, MT21023TalliedQueue, ds21023TalliedQueue, hv21023TalliedQueue, B21023TalliedQueue⟩ := KM_Queue_served_TalliedQueue.at (ps := ["self"]) RL_TalliedQueue.ns (fun _ _ _ _ _ _ us _ hl => match us, hl with | [_], _ => ⟨_, _, _, _, _, _, rfl, rfl, rfl⟩)
  have W21023TalliedQueue := w_Queue_served (w := w) (P := l.prog) (base := base) (mg := mg) (b := (sackB (clsOf [("TooLarge", C_TooLarge), ("NoGroup", C_NoGroup), ("Busy", C_Busy), ("NoPerson", C_NoPerson), ("Absent", C_Absent), ("Empty", C_Empty), ("TooManyEdits", C_TooManyEdits), ("NoVersion", C_NoVersion), ("NoIndex", C_NoIndex), ("Scene", C_Scene), ("Queue", C_Queue), ("TalliedQueue", C_TalliedQueue)] fa) r l1)) (S := S_Queue_served) F21023TalliedQueue C21020 CL_Scene NA_Scene_done (fun ds Q E h => by first | (simp only [S_Queue_served] at h; split at h <;> first | rfl | exact h.elim) | (obtain ⟨rfl, _⟩ := h; rfl) | (obtain ⟨_, rfl, _⟩ := h; rfl) | (obtain ⟨_, _, rfl, _⟩ := h; rfl) | (obtain ⟨_, _, _, rfl, _⟩ := h; rfl) | (obtain ⟨_, _, _, _, rfl, _⟩ := h; rfl) | (obtain ⟨_, _, _, _, _, rfl, _⟩ := h; rfl) | (obtain ⟨_, _, _, _, _, _, rfl, _⟩ := h; rfl) | (obtain ⟨_, _, _, _, _, _, _, rfl, _⟩ := h; rfl) | (obtain ⟨_, _, _, _, _, _, _, _, rfl, _⟩ := h; rfl)) l_Queue_served
  have C21023 : CalQ l.prog w K mg base (sackB (clsOf [("TooLarge", C_TooLarge), ("NoGroup", C_NoGroup), ("Busy", C_Busy), ("NoPerson", C_NoPerson), ("Absent", C_Absent), ("Empty", C_Empty), ("TooManyEdits", C_TooManyEdits), ("NoVersion", C_NoVersion), ("NoIndex", C_NoIndex), ("Scene", C_Scene), ("Queue", C_Queue), ("TalliedQueue", C_TalliedQueue)] fa) r l1) 4 qNs "served" (fun _ => svW .none S_Queue_served) := ⟨fun n hn => by
    simp only [qNs, List.mem_cons, List.not_mem_nil, or_false] at hn
    rcases hn with rfl | rfl
    · exact ⟨_, fnW W21023Queue B21023Queue hv21023Queue (fun _ _ => by constructor), CL_Queue, MT21023Queue⟩
    · exact ⟨_, fnW W21023TalliedQueue B21023TalliedQueue hv21023TalliedQueue (fun _ _ => by constructor), CL_TalliedQueue, MT21023TalliedQueue⟩⟩
  obtain ⟨f21022Queue, v21022Queue, F21022Queue, MT21022Queue, ds21022Queue, hv21022Queue, B21022Queue⟩ := KM_Queue_waiting_Queue.at (ps := ["self"]) RL_Queue.ns (fun _ _ _ _ _ _ us _ hl => match us, hl with | [_], _ => ⟨_, _, _, _, _, _, rfl, rfl, rfl⟩)
  have W21022Queue := w_Queue_waiting (w := w) (P := l.prog) (base := base) (mg := mg) (b := (sackB (clsOf [("TooLarge", C_TooLarge), ("NoGroup", C_NoGroup), ("Busy", C_Busy), ("NoPerson", C_NoPerson), ("Absent", C_Absent), ("Empty", C_Empty), ("TooManyEdits", C_TooManyEdits), ("NoVersion", C_NoVersion), ("NoIndex", C_NoIndex), ("Scene", C_Scene), ("Queue", C_Queue), ("TalliedQueue", C_TalliedQueue)] fa) r l1)) (S := S_Queue_waiting) F21022Queue C21020 CL_Scene NA_Scene_line (fun ds Q E h => by first | (simp only [S_Queue_waiting] at h; split at h <;> first | rfl | exact h.elim) | (obtain ⟨rfl, _⟩ := h; rfl) | (obtain ⟨_, rfl, _⟩ := h; rfl) | (obtain ⟨_, _, rfl, _⟩ := h; rfl) | (obtain ⟨_, _, _, rfl, _⟩ := h; rfl) | (obtain ⟨_, _, _, _, rfl, _⟩ := h; rfl) | (obtain ⟨_, _, _, _, _, rfl, _⟩ := h; rfl) | (obtain ⟨_, _, _, _, _, _, rfl, _⟩ := h; rfl) | (obtain ⟨_, _, _, _, _, _, _, rfl, _⟩ := h; rfl) | (obtain ⟨_, _, _, _, _, _, _, _, rfl, _⟩ := h; rfl)) l_Queue_waiting
  obtain ⟨f21022TalliedQueue, v21022TalliedQueue, F21022TalliedQueue, MT21022TalliedQueue, ds21022TalliedQueue, hv21022TalliedQueue, B21022TalliedQueue⟩ := KM_Queue_waiting_TalliedQueue.at (ps := ["self"]) RL_TalliedQueue.ns (fun _ _ _ _ _ _ us _ hl => match us, hl with | [_], _ => ⟨_, _, _, _, _, _, rfl, rfl, rfl⟩)
  have W21022TalliedQueue := w_Queue_waiting (w := w) (P := l.prog) (base := base) (mg := mg) (b := (sackB (clsOf [("TooLarge", C_TooLarge), ("NoGroup", C_NoGroup), ("Busy", C_Busy), ("NoPerson", C_NoPerson), ("Absent", C_Absent), ("Empty", C_Empty), ("TooManyEdits", C_TooManyEdits), ("NoVersion", C_NoVersion), ("NoIndex", C_NoIndex), ("Scene", C_Scene), ("Queue", C_Queue), ("TalliedQueue", C_TalliedQueue)] fa) r l1)) (S := S_Queue_waiting) F21022TalliedQueue C21020 CL_Scene NA_Scene_line (fun ds Q E h => by first | (simp only [S_Queue_waiting] at h; split at h <;> first | rfl | exact h.elim) | (obtain ⟨rfl, _⟩ := h; rfl) | (obtain ⟨_, rfl, _⟩ := h; rfl) | (obtain ⟨_, _, rfl, _⟩ := h; rfl) | (obtain ⟨_, _, _, rfl, _⟩ := h; rfl) | (obtain ⟨_, _, _, _, rfl, _⟩ := h; rfl) | (obtain ⟨_, _, _, _, _, rfl, _⟩ := h; rfl) | (obtain ⟨_, _, _, _, _, _, rfl, _⟩ := h; rfl) | (obtain ⟨_, _, _, _, _, _, _, rfl, _⟩ := h; rfl) | (obtain ⟨_, _, _, _, _, _, _, _, rfl, _⟩ := h; rfl)) l_Queue_waiting
  have C21022 : CalQ l.prog w K mg base (sackB (clsOf [("TooLarge", C_TooLarge), ("NoGroup", C_NoGroup), ("Busy", C_Busy), ("NoPerson", C_NoPerson), ("Absent", C_Absent), ("Empty", C_Empty), ("TooManyEdits", C_TooManyEdits), ("NoVersion", C_NoVersion), ("NoIndex", C_NoIndex), ("Scene", C_Scene), ("Queue", C_Queue), ("TalliedQueue", C_TalliedQueue)] fa) r l1) 4 qNs "waiting" (fun _ => svW .none S_Queue_waiting) := ⟨fun n hn => by
    simp only [qNs, List.mem_cons, List.not_mem_nil, or_false] at hn
    rcases hn with rfl | rfl
    · exact ⟨_, fnW W21022Queue B21022Queue hv21022Queue (fun _ _ => by constructor), CL_Queue, MT21022Queue⟩
    · exact ⟨_, fnW W21022TalliedQueue B21022TalliedQueue hv21022TalliedQueue (fun _ _ => by constructor), CL_TalliedQueue, MT21022TalliedQueue⟩⟩
  obtain ⟨p22000TalliedQueue, f22000TalliedQueue, v22000TalliedQueue, F22000TalliedQueue, PP22000TalliedQueue⟩ := KM_TalliedQueue_joined_TalliedQueue.at RL_TalliedQueue.ns
  have B22000TalliedQueue := F22000TalliedQueue.binds (ps := ["self"]) fun _ _ _ _ _ _ us hl => match us, hl with | [_], _ => rfl
  have W22000TalliedQueue := w_TalliedQueue_joined (w := w) (P := l.prog) (base := base) (mg := mg) (b := (sackB (clsOf [("TooLarge", C_TooLarge), ("NoGroup", C_NoGroup), ("Busy", C_Busy), ("NoPerson", C_NoPerson), ("Absent", C_Absent), ("Empty", C_Empty), ("TooManyEdits", C_TooManyEdits), ("NoVersion", C_NoVersion), ("NoIndex", C_NoIndex), ("Scene", C_Scene), ("Queue", C_Queue), ("TalliedQueue", C_TalliedQueue)] fa) r l1)) (S := S_TalliedQueue_joined) F22000TalliedQueue FQ_scenes CL_Scene NA_Scene_mated (fun ds Q E h => by first | (simp only [S_TalliedQueue_joined] at h; split at h <;> first | rfl | exact h.elim) | (obtain ⟨rfl, _⟩ := h; rfl) | (obtain ⟨_, rfl, _⟩ := h; rfl) | (obtain ⟨_, _, rfl, _⟩ := h; rfl) | (obtain ⟨_, _, _, rfl, _⟩ := h; rfl) | (obtain ⟨_, _, _, _, rfl, _⟩ := h; rfl) | (obtain ⟨_, _, _, _, _, rfl, _⟩ := h; rfl) | (obtain ⟨_, _, _, _, _, _, rfl, _⟩ := h; rfl) | (obtain ⟨_, _, _, _, _, _, _, rfl, _⟩ := h; rfl) | (obtain ⟨_, _, _, _, _, _, _, _, rfl, _⟩ := h; rfl)) l_TalliedQueue_joined
  have C22000 : CalP l.prog w K mg base (sackB (clsOf [("TooLarge", C_TooLarge), ("NoGroup", C_NoGroup), ("Busy", C_Busy), ("NoPerson", C_NoPerson), ("Absent", C_Absent), ("Empty", C_Empty), ("TooManyEdits", C_TooManyEdits), ("NoVersion", C_NoVersion), ("NoIndex", C_NoIndex), ("Scene", C_Scene), ("Queue", C_Queue), ("TalliedQueue", C_TalliedQueue)] fa) r l1) 1 ["TalliedQueue"] "joined" S_TalliedQueue_joined := ⟨fun n hn => by
    simp only [List.mem_cons, List.not_mem_nil, or_false] at hn
    subst hn
    exact ⟨_, _, _, _, W22000TalliedQueue, CL_TalliedQueue, PP22000TalliedQueue, B22000TalliedQueue⟩⟩
  obtain ⟨f21024Queue, v21024Queue, F21024Queue, MT21024Queue, ds21024Queue, hv21024Queue, B21024Queue⟩ := KM_Queue_gone_Queue.at (ps := ["self"]) RL_Queue.ns (fun _ _ _ _ _ _ us _ hl => match us, hl with | [_], _ => ⟨_, _, _, _, _, _, rfl, rfl, rfl⟩)
  have W21024Queue := w_Queue_gone (w := w) (P := l.prog) (base := base) (mg := mg) (b := (sackB (clsOf [("TooLarge", C_TooLarge), ("NoGroup", C_NoGroup), ("Busy", C_Busy), ("NoPerson", C_NoPerson), ("Absent", C_Absent), ("Empty", C_Empty), ("TooManyEdits", C_TooManyEdits), ("NoVersion", C_NoVersion), ("NoIndex", C_NoIndex), ("Scene", C_Scene), ("Queue", C_Queue), ("TalliedQueue", C_TalliedQueue)] fa) r l1)) (S := S_Queue_gone) F21024Queue C21020 CL_Scene NA_Scene_left (fun ds Q E h => by first | (simp only [S_Queue_gone] at h; split at h <;> first | rfl | exact h.elim) | (obtain ⟨rfl, _⟩ := h; rfl) | (obtain ⟨_, rfl, _⟩ := h; rfl) | (obtain ⟨_, _, rfl, _⟩ := h; rfl) | (obtain ⟨_, _, _, rfl, _⟩ := h; rfl) | (obtain ⟨_, _, _, _, rfl, _⟩ := h; rfl) | (obtain ⟨_, _, _, _, _, rfl, _⟩ := h; rfl) | (obtain ⟨_, _, _, _, _, _, rfl, _⟩ := h; rfl) | (obtain ⟨_, _, _, _, _, _, _, rfl, _⟩ := h; rfl) | (obtain ⟨_, _, _, _, _, _, _, _, rfl, _⟩ := h; rfl)) l_Queue_gone
  obtain ⟨f21024TalliedQueue, v21024TalliedQueue, F21024TalliedQueue, MT21024TalliedQueue, ds21024TalliedQueue, hv21024TalliedQueue, B21024TalliedQueue⟩ := KM_Queue_gone_TalliedQueue.at (ps := ["self"]) RL_TalliedQueue.ns (fun _ _ _ _ _ _ us _ hl => match us, hl with | [_], _ => ⟨_, _, _, _, _, _, rfl, rfl, rfl⟩)
  have W21024TalliedQueue := w_Queue_gone (w := w) (P := l.prog) (base := base) (mg := mg) (b := (sackB (clsOf [("TooLarge", C_TooLarge), ("NoGroup", C_NoGroup), ("Busy", C_Busy), ("NoPerson", C_NoPerson), ("Absent", C_Absent), ("Empty", C_Empty), ("TooManyEdits", C_TooManyEdits), ("NoVersion", C_NoVersion), ("NoIndex", C_NoIndex), ("Scene", C_Scene), ("Queue", C_Queue), ("TalliedQueue", C_TalliedQueue)] fa) r l1)) (S := S_Queue_gone) F21024TalliedQueue C21020 CL_Scene NA_Scene_left (fun ds Q E h => by first | (simp only [S_Queue_gone] at h; split at h <;> first | rfl | exact h.elim) | (obtain ⟨rfl, _⟩ := h; rfl) | (obtain ⟨_, rfl, _⟩ := h; rfl) | (obtain ⟨_, _, rfl, _⟩ := h; rfl) | (obtain ⟨_, _, _, rfl, _⟩ := h; rfl) | (obtain ⟨_, _, _, _, rfl, _⟩ := h; rfl) | (obtain ⟨_, _, _, _, _, rfl, _⟩ := h; rfl) | (obtain ⟨_, _, _, _, _, _, rfl, _⟩ := h; rfl) | (obtain ⟨_, _, _, _, _, _, _, rfl, _⟩ := h; rfl) | (obtain ⟨_, _, _, _, _, _, _, _, rfl, _⟩ := h; rfl)) l_Queue_gone
  have C21024 : CalQ l.prog w K mg base (sackB (clsOf [("TooLarge", C_TooLarge), ("NoGroup", C_NoGroup), ("Busy", C_Busy), ("NoPerson", C_NoPerson), ("Absent", C_Absent), ("Empty", C_Empty), ("TooManyEdits", C_TooManyEdits), ("NoVersion", C_NoVersion), ("NoIndex", C_NoIndex), ("Scene", C_Scene), ("Queue", C_Queue), ("TalliedQueue", C_TalliedQueue)] fa) r l1) 4 qNs "gone" (fun _ => svW .none S_Queue_gone) := ⟨fun n hn => by
    simp only [qNs, List.mem_cons, List.not_mem_nil, or_false] at hn
    rcases hn with rfl | rfl
    · exact ⟨_, fnW W21024Queue B21024Queue hv21024Queue (fun _ _ => by constructor), CL_Queue, MT21024Queue⟩
    · exact ⟨_, fnW W21024TalliedQueue B21024TalliedQueue hv21024TalliedQueue (fun _ _ => by constructor), CL_TalliedQueue, MT21024TalliedQueue⟩⟩
  obtain ⟨f21026Queue, v21026Queue, F21026Queue, MT21026Queue⟩ := KM_Queue_word_Queue.at RL_Queue.ns
  have B21026Queue := F21026Queue.binds (ps := ["self"]) fun _ _ _ _ _ _ us hl => match us, hl with | [_], _ => rfl
  have W21026Queue := w_Queue_word (w := w) (P := l.prog) (base := base) (mg := mg) (b := (sackB (clsOf [("TooLarge", C_TooLarge), ("NoGroup", C_NoGroup), ("Busy", C_Busy), ("NoPerson", C_NoPerson), ("Absent", C_Absent), ("Empty", C_Empty), ("TooManyEdits", C_TooManyEdits), ("NoVersion", C_NoVersion), ("NoIndex", C_NoIndex), ("Scene", C_Scene), ("Queue", C_Queue), ("TalliedQueue", C_TalliedQueue)] fa) r l1)) (S := S_Queue_word) F21026Queue FQ_scenes CL_Scene NA_Scene_left NA_Scene_letters (fun ds Q E h => by first | (simp only [S_Queue_word] at h; split at h <;> first | rfl | exact h.elim) | (obtain ⟨rfl, _⟩ := h; rfl) | (obtain ⟨_, rfl, _⟩ := h; rfl) | (obtain ⟨_, _, rfl, _⟩ := h; rfl) | (obtain ⟨_, _, _, rfl, _⟩ := h; rfl) | (obtain ⟨_, _, _, _, rfl, _⟩ := h; rfl) | (obtain ⟨_, _, _, _, _, rfl, _⟩ := h; rfl) | (obtain ⟨_, _, _, _, _, _, rfl, _⟩ := h; rfl) | (obtain ⟨_, _, _, _, _, _, _, rfl, _⟩ := h; rfl) | (obtain ⟨_, _, _, _, _, _, _, _, rfl, _⟩ := h; rfl)) l_Queue_word
  obtain ⟨f21026TalliedQueue, v21026TalliedQueue, F21026TalliedQueue, MT21026TalliedQueue⟩ := KM_Queue_word_TalliedQueue.at RL_TalliedQueue.ns
  have B21026TalliedQueue := F21026TalliedQueue.binds (ps := ["self"]) fun _ _ _ _ _ _ us hl => match us, hl with | [_], _ => rfl
  have W21026TalliedQueue := w_Queue_word (w := w) (P := l.prog) (base := base) (mg := mg) (b := (sackB (clsOf [("TooLarge", C_TooLarge), ("NoGroup", C_NoGroup), ("Busy", C_Busy), ("NoPerson", C_NoPerson), ("Absent", C_Absent), ("Empty", C_Empty), ("TooManyEdits", C_TooManyEdits), ("NoVersion", C_NoVersion), ("NoIndex", C_NoIndex), ("Scene", C_Scene), ("Queue", C_Queue), ("TalliedQueue", C_TalliedQueue)] fa) r l1)) (S := S_Queue_word) F21026TalliedQueue FQ_scenes CL_Scene NA_Scene_left NA_Scene_letters (fun ds Q E h => by first | (simp only [S_Queue_word] at h; split at h <;> first | rfl | exact h.elim) | (obtain ⟨rfl, _⟩ := h; rfl) | (obtain ⟨_, rfl, _⟩ := h; rfl) | (obtain ⟨_, _, rfl, _⟩ := h; rfl) | (obtain ⟨_, _, _, rfl, _⟩ := h; rfl) | (obtain ⟨_, _, _, _, rfl, _⟩ := h; rfl) | (obtain ⟨_, _, _, _, _, rfl, _⟩ := h; rfl) | (obtain ⟨_, _, _, _, _, _, rfl, _⟩ := h; rfl) | (obtain ⟨_, _, _, _, _, _, _, rfl, _⟩ := h; rfl) | (obtain ⟨_, _, _, _, _, _, _, _, rfl, _⟩ := h; rfl)) l_Queue_word
  have C21026 : CalQ l.prog w K mg base (sackB (clsOf [("TooLarge", C_TooLarge), ("NoGroup", C_NoGroup), ("Busy", C_Busy), ("NoPerson", C_NoPerson), ("Absent", C_Absent), ("Empty", C_Empty), ("TooManyEdits", C_TooManyEdits), ("NoVersion", C_NoVersion), ("NoIndex", C_NoIndex), ("Scene", C_Scene), ("Queue", C_Queue), ("TalliedQueue", C_TalliedQueue)] fa) r l1) 1 qNs "word" (fun _ => S_Queue_word) := ⟨fun n hn => by
    simp only [qNs, List.mem_cons, List.not_mem_nil, or_false] at hn
    rcases hn with rfl | rfl
    · exact ⟨_, fnR0 W21026Queue B21026Queue, CL_Queue, MT21026Queue⟩
    · exact ⟨_, fnR0 W21026TalliedQueue B21026TalliedQueue, CL_TalliedQueue, MT21026TalliedQueue⟩⟩
  obtain ⟨f21030Queue, v21030Queue, F21030Queue, MT21030Queue⟩ := KM_Queue_told_Queue.at RL_Queue.ns
  have B21030Queue := F21030Queue.binds (ps := ["self"]) fun _ _ _ _ _ _ us hl => match us, hl with | [_], _ => rfl
  have W21030Queue := w_Queue_told (w := w) (P := l.prog) (base := base) (mg := mg) (b := (sackB (clsOf [("TooLarge", C_TooLarge), ("NoGroup", C_NoGroup), ("Busy", C_Busy), ("NoPerson", C_NoPerson), ("Absent", C_Absent), ("Empty", C_Empty), ("TooManyEdits", C_TooManyEdits), ("NoVersion", C_NoVersion), ("NoIndex", C_NoIndex), ("Scene", C_Scene), ("Queue", C_Queue), ("TalliedQueue", C_TalliedQueue)] fa) r l1)) (S := S_Queue_told) F21030Queue C21005 C21004 y_len FQ_kept (fun ds Q E h => by first | (simp only [S_Queue_told] at h; split at h <;> first | rfl | exact h.elim) | (obtain ⟨rfl, _⟩ := h; rfl) | (obtain ⟨_, rfl, _⟩ := h; rfl) | (obtain ⟨_, _, rfl, _⟩ := h; rfl) | (obtain ⟨_, _, _, rfl, _⟩ := h; rfl) | (obtain ⟨_, _, _, _, rfl, _⟩ := h; rfl) | (obtain ⟨_, _, _, _, _, rfl, _⟩ := h; rfl) | (obtain ⟨_, _, _, _, _, _, rfl, _⟩ := h; rfl) | (obtain ⟨_, _, _, _, _, _, _, rfl, _⟩ := h; rfl) | (obtain ⟨_, _, _, _, _, _, _, _, rfl, _⟩ := h; rfl)) l_Queue_told
  obtain ⟨f21030TalliedQueue, f221030TalliedQueue, cda21030TalliedQueue, cc21030TalliedQueue, v21030TalliedQueue, v221030TalliedQueue, F21030TalliedQueue, MT21030TalliedQueue, F221030TalliedQueue⟩ := KM_SUP.at RL_TalliedQueue.ns
  have B21030TalliedQueue := F21030TalliedQueue.binds (ps := ["self"]) fun _ _ _ _ _ us hl => match us, hl with | [_], _ => rfl
  have B221030TalliedQueue := F221030TalliedQueue.binds (ps := ["self"]) fun _ _ _ _ _ _ us hl => match us, hl with | [_], _ => rfl
  have W221030TalliedQueue := w_Queue_told (w := w) (P := l.prog) (base := base) (mg := mg) (b := (sackB (clsOf [("TooLarge", C_TooLarge), ("NoGroup", C_NoGroup), ("Busy", C_Busy), ("NoPerson", C_NoPerson), ("Absent", C_Absent), ("Empty", C_Empty), ("TooManyEdits", C_TooManyEdits), ("NoVersion", C_NoVersion), ("NoIndex", C_NoIndex), ("Scene", C_Scene), ("Queue", C_Queue), ("TalliedQueue", C_TalliedQueue)] fa) r l1)) (S := S_Queue_told) F221030TalliedQueue C21005 C21004 y_len FQ_kept (fun ds Q E h => by first | (simp only [S_Queue_told] at h; split at h <;> first | rfl | exact h.elim) | (obtain ⟨rfl, _⟩ := h; rfl) | (obtain ⟨_, rfl, _⟩ := h; rfl) | (obtain ⟨_, _, rfl, _⟩ := h; rfl) | (obtain ⟨_, _, _, rfl, _⟩ := h; rfl) | (obtain ⟨_, _, _, _, rfl, _⟩ := h; rfl) | (obtain ⟨_, _, _, _, _, rfl, _⟩ := h; rfl) | (obtain ⟨_, _, _, _, _, _, rfl, _⟩ := h; rfl) | (obtain ⟨_, _, _, _, _, _, _, rfl, _⟩ := h; rfl) | (obtain ⟨_, _, _, _, _, _, _, _, rfl, _⟩ := h; rfl)) l_Queue_told
  have W21030TalliedQueue := w_TalliedQueue_told (w := w) (P := l.prog) (base := base) (mg := mg) (b := (sackB (clsOf [("TooLarge", C_TooLarge), ("NoGroup", C_NoGroup), ("Busy", C_Busy), ("NoPerson", C_NoPerson), ("Absent", C_Absent), ("Empty", C_Empty), ("TooManyEdits", C_TooManyEdits), ("NoVersion", C_NoVersion), ("NoIndex", C_NoIndex), ("Scene", C_Scene), ("Queue", C_Queue), ("TalliedQueue", C_TalliedQueue)] fa) r l1)) (S1 := S_TalliedQueue_told) F21030TalliedQueue ((fnR0 W221030TalliedQueue B221030TalliedQueue).mono (by decide)) C22001 C22000 y_super y_len l_TalliedQueue_told
  have C21030 : CalQ l.prog w K mg base (sackB (clsOf [("TooLarge", C_TooLarge), ("NoGroup", C_NoGroup), ("Busy", C_Busy), ("NoPerson", C_NoPerson), ("Absent", C_Absent), ("Empty", C_Empty), ("TooManyEdits", C_TooManyEdits), ("NoVersion", C_NoVersion), ("NoIndex", C_NoIndex), ("Scene", C_Scene), ("Queue", C_Queue), ("TalliedQueue", C_TalliedQueue)] fa) r l1) 4 qNs "told" S_toldT := ⟨fun n hn => by
    simp only [qNs, List.mem_cons, List.not_mem_nil, or_false] at hn
    rcases hn with rfl | rfl
    · exact ⟨_, (fnR0 W21030Queue B21030Queue).mono (by decide), CL_Queue, MT21030Queue⟩
    · exact ⟨_, (fnR0 W21030TalliedQueue B21030TalliedQueue).mono (by decide), CL_TalliedQueue, MT21030TalliedQueue⟩⟩
  obtain ⟨f21037Queue, v21037Queue, F21037Queue, MT21037Queue⟩ := KM_Queue_str_Queue.at RL_Queue.ns
  have B21037Queue := F21037Queue.binds (ps := ["self"]) fun _ _ _ _ _ _ us hl => match us, hl with | [_], _ => rfl
  have W21037Queue := w_Queue_str (w := w) (P := l.prog) (base := base) (mg := mg) (b := (sackB (clsOf [("TooLarge", C_TooLarge), ("NoGroup", C_NoGroup), ("Busy", C_Busy), ("NoPerson", C_NoPerson), ("Absent", C_Absent), ("Empty", C_Empty), ("TooManyEdits", C_TooManyEdits), ("NoVersion", C_NoVersion), ("NoIndex", C_NoIndex), ("Scene", C_Scene), ("Queue", C_Queue), ("TalliedQueue", C_TalliedQueue)] fa) r l1)) (S := S_strT) F21037Queue C21030 (fun ds Q E h => by first | (simp only [S_Queue_str] at h; split at h <;> first | rfl | exact h.elim) | (obtain ⟨rfl, _⟩ := h; rfl) | (obtain ⟨_, rfl, _⟩ := h; rfl) | (obtain ⟨_, _, rfl, _⟩ := h; rfl) | (obtain ⟨_, _, _, rfl, _⟩ := h; rfl) | (obtain ⟨_, _, _, _, rfl, _⟩ := h; rfl) | (obtain ⟨_, _, _, _, _, rfl, _⟩ := h; rfl) | (obtain ⟨_, _, _, _, _, _, rfl, _⟩ := h; rfl) | (obtain ⟨_, _, _, _, _, _, _, rfl, _⟩ := h; rfl) | (obtain ⟨_, _, _, _, _, _, _, _, rfl, _⟩ := h; rfl)) l_strT
  obtain ⟨f21037TalliedQueue, v21037TalliedQueue, F21037TalliedQueue, MT21037TalliedQueue⟩ := KM_Queue_str_TalliedQueue.at RL_TalliedQueue.ns
  have B21037TalliedQueue := F21037TalliedQueue.binds (ps := ["self"]) fun _ _ _ _ _ _ us hl => match us, hl with | [_], _ => rfl
  have W21037TalliedQueue := w_Queue_str (w := w) (P := l.prog) (base := base) (mg := mg) (b := (sackB (clsOf [("TooLarge", C_TooLarge), ("NoGroup", C_NoGroup), ("Busy", C_Busy), ("NoPerson", C_NoPerson), ("Absent", C_Absent), ("Empty", C_Empty), ("TooManyEdits", C_TooManyEdits), ("NoVersion", C_NoVersion), ("NoIndex", C_NoIndex), ("Scene", C_Scene), ("Queue", C_Queue), ("TalliedQueue", C_TalliedQueue)] fa) r l1)) (S := S_strT) F21037TalliedQueue C21030 (fun ds Q E h => by first | (simp only [S_Queue_str] at h; split at h <;> first | rfl | exact h.elim) | (obtain ⟨rfl, _⟩ := h; rfl) | (obtain ⟨_, rfl, _⟩ := h; rfl) | (obtain ⟨_, _, rfl, _⟩ := h; rfl) | (obtain ⟨_, _, _, rfl, _⟩ := h; rfl) | (obtain ⟨_, _, _, _, rfl, _⟩ := h; rfl) | (obtain ⟨_, _, _, _, _, rfl, _⟩ := h; rfl) | (obtain ⟨_, _, _, _, _, _, rfl, _⟩ := h; rfl) | (obtain ⟨_, _, _, _, _, _, _, rfl, _⟩ := h; rfl) | (obtain ⟨_, _, _, _, _, _, _, _, rfl, _⟩ := h; rfl)) l_strT
  have C21037 : CalD1 l.prog w K mg base (sackB (clsOf [("TooLarge", C_TooLarge), ("NoGroup", C_NoGroup), ("Busy", C_Busy), ("NoPerson", C_NoPerson), ("Absent", C_Absent), ("Empty", C_Empty), ("TooManyEdits", C_TooManyEdits), ("NoVersion", C_NoVersion), ("NoIndex", C_NoIndex), ("Scene", C_Scene), ("Queue", C_Queue), ("TalliedQueue", C_TalliedQueue)] fa) r l1) 5 qNs "__str__" (fun _ => S_strT) := ⟨fun n hn => by
    simp only [qNs, List.mem_cons, List.not_mem_nil, or_false] at hn
    rcases hn with rfl | rfl
    · exact ⟨_, _, _, W21037Queue, MT21037Queue.at_, MT21037Queue.fn, B21037Queue⟩
    · exact ⟨_, _, _, W21037TalliedQueue, MT21037TalliedQueue.at_, MT21037TalliedQueue.fn, B21037TalliedQueue⟩⟩
  have C36 : Cal l.prog w K mg base (sackB (clsOf [("TooLarge", C_TooLarge), ("NoGroup", C_NoGroup), ("Busy", C_Busy), ("NoPerson", C_NoPerson), ("Absent", C_Absent), ("Empty", C_Empty), ("TooManyEdits", C_TooManyEdits), ("NoVersion", C_NoVersion), ("NoIndex", C_NoIndex), ("Scene", C_Scene), ("Queue", C_Queue), ("TalliedQueue", C_TalliedQueue)] fa) r l1) 9 "_law_plain_right" ["_law_edits", "_law_kind"] S_law_plain_right := ⟨f36, v36, w_law_plain_right F36 C34 C33 C21023 C21022 C22000 C22001 y_int y_tuple y_list y_sorted (fun ds Q E h => by first | (simp only [S_law_plain_right] at h; split at h <;> first | rfl | exact h.elim) | (obtain ⟨rfl, _⟩ := h; rfl) | (obtain ⟨_, rfl, _⟩ := h; rfl) | (obtain ⟨_, _, rfl, _⟩ := h; rfl) | (obtain ⟨_, _, _, rfl, _⟩ := h; rfl) | (obtain ⟨_, _, _, _, rfl, _⟩ := h; rfl) | (obtain ⟨_, _, _, _, _, rfl, _⟩ := h; rfl) | (obtain ⟨_, _, _, _, _, _, rfl, _⟩ := h; rfl) | (obtain ⟨_, _, _, _, _, _, _, rfl, _⟩ := h; rfl)) l_law_plain_right, g36, p36, B36⟩
  exact w_law C32 C24 C34 C33 C22001 C35 C21023 C21022 C22000 C21024 C21026 C21037 C36 y_range y_str cdv A outer s H E hr hgd tk
end LawP
set_option linter.all false
set_option maxRecDepth 100000
set_option maxHeartbeats 0
open PySem PySem.W PyProof.Rows in
theorem PySem.Challenge.cw_matesline_k70_whole_jumps_and_other_grou_holds : PySem.Challenge.rw_matesline_k70_whole_jumps_and_other_grou.Holds := by
  w_on; o_law; k_head; (case hw => w_witness2)
  k_fill
  refine VL.walkG (l := PySem.Challenge.rw_matesline_k70_whole_jumps_and_other_grou) (n := 63) (k := 10) (x := "_law_script") (sp := fun w => VL.spLaw _) rfl (by decide) rfl ⟨rfl, by decide, by decide⟩ (fun w h Y => PySem.W.kIn_of Y) ?F (fun _ _ a ns hl _ hS => ⟨a, ns, rfl, hS, hl, fun _ => rfl⟩)
  case F =>
    intro w mg fa h KX G hmg
    refine' LawP.all_mk KX G hmg ?d27 ?d29 ?d24 ?d31 ?d26 ?d28 ?d32 ?d18 ?d30 ?d34 ?d33 ?d35 ?d36 ?d23 ?d37 ?m0 ?m1 ?m2 ?m3 ?m4 ?z0 ?z1 ?z2 ?z3 ?z4 ?z5 ?z6 ?z7 ?z8 ?z9 ?z10 ?z11 ?z12 ?z13 ?r0 ?r1 ?r2 ?r3 ?r4 ?r5 ?r6 ?r7 ?r8 ?kl0 ?kl1 ?kl2 ?qk0 ?qk1 ?qk2 ?qk3 ?qk4 ?qk5 ?qk6 ?qk7 ?qk8 ?qk9 ?qk10 ?qk11 ?qk12 ?qk13 ?qk14 ?qk15 ?qk16 ?qk17 ?qk18 ?qk19 ?qk20 ?qk21 ?qk22 ?qk23 ?qk24 ?qk25 ?qk26 ?qk27 ?qk28 ?qk29 ?qk30 ?qk31 ?qk32 ?qk33 ?qk34 ?qk35 ?qk36 ?qk37 ?qk38 ?qk39 ?qk40 ?qk41 ?qk42 ?qk43 ?kn0 ?kn1 ?kn2 ?kn3 ?kn4 ?kn5 ?kn6 ?km0 ?km1 ?km2
    (case d27 => refine' VL.defK ?a ?l ?c ?k; (case a => k_is); (case l => k_is); (case c => k_is); (case k => k_is))
    (case d29 => refine' VL.defK ?a ?l ?c ?k; (case a => k_is); (case l => k_is); (case c => k_is); (case k => k_is))
    (case d24 => refine' VL.defK ?a ?l ?c ?k; (case a => k_is); (case l => k_is); (case c => k_is); (case k => k_is))
    (case d31 => refine' VL.defK ?a ?l ?c ?k; (case a => k_is); (case l => k_is); (case c => k_is); (case k => k_is))
    (case d26 => refine' VL.defK ?a ?l ?c ?k; (case a => k_is); (case l => k_is); (case c => k_is); (case k => k_is))
    (case d28 => refine' VL.defK ?a ?l ?c ?k; (case a => k_is); (case l => k_is); (case c => k_is); (case k => k_is))
    (case d32 => refine' VL.defK ?a ?l ?c ?k; (case a => k_is); (case l => k_is); (case c => k_is); (case k => k_is))
    (case d18 => refine' VL.defK ?a ?l ?c ?k; (case a => k_is); (case l => k_is); (case c => k_is); (case k => k_is))
    (case d30 => refine' VL.defK ?a ?l ?c ?k; (case a => k_is); (case l => k_is); (case c => k_is); (case k => k_is))
    (case d34 => refine' VL.defK ?a ?l ?c ?k; (case a => k_is); (case l => k_is); (case c => k_is); (case k => k_is))
    (case d33 => refine' VL.defK ?a ?l ?c ?k; (case a => k_is); (case l => k_is); (case c => k_is); (case k => k_is))
    (case d35 => refine' VL.defK ?a ?l ?c ?k; (case a => k_is); (case l => k_is); (case c => k_is); (case k => k_is))
    (case d36 => refine' VL.defK ?a ?l ?c ?k; (case a => k_is); (case l => k_is); (case c => k_is); (case k => k_is))
    (case d23 => refine' VL.defK ?a ?l ?c ?k; (case a => k_is); (case l => k_is); (case c => k_is); (case k => k_is))
    (case d37 => refine' VL.defK ?a ?l ?c ?k; (case a => k_is); (case l => k_is); (case c => k_is); (case k => k_is))
    (case m0 => k_is)
    (case m1 => k_is)
    (case m2 => k_is)
    (case m3 => k_is)
    (case m4 => k_is)
    (case z0 => k_is)
    (case z1 => k_is)
    (case z2 => k_is)
    (case z3 => k_is)
    (case z4 => k_is)
    (case z5 => k_is)
    (case z6 => k_is)
    (case z7 => k_is)
    (case z8 => k_is)
    (case z9 => k_is)
    (case z10 => k_is)
    (case z11 => k_is)
    (case z12 => k_is)
    (case z13 => k_is)
    (case r0 => refine' VL.rai1 (VL.raiB ?a1 ?a2 ?a3 ?a4 ?a5 ?b1 ?b2 ?b3 ?b4 ?b5 ?b6 ?b7 ?b8) ?c1 ?c2 ?c3 ?c4 ?d1 ?d2 ?d3 ?d4 ?d5; (case a1 => k_is); (case a2 => k_is); (case a3 => k_is); (case a4 => k_is); (case a5 => k_is); (case b1 => k_is); (case b2 => k_is); (case b3 => k_is); (case b4 => k_is); (case b5 => k_is); (case b6 => k_is); (case b7 => k_is); (case b8 => k_is); (case c1 => k_is); (case c2 => decide +kernel); (case c3 => k_is); (case c4 => k_is); (case d1 => k_is); (case d2 => k_is); (case d3 => k_is); (case d4 => k_is); (case d5 => k_is))
    (case r1 => refine' VL.rai1 (VL.raiB ?a1 ?a2 ?a3 ?a4 ?a5 ?b1 ?b2 ?b3 ?b4 ?b5 ?b6 ?b7 ?b8) ?c1 ?c2 ?c3 ?c4 ?d1 ?d2 ?d3 ?d4 ?d5; (case a1 => k_is); (case a2 => k_is); (case a3 => k_is); (case a4 => k_is); (case a5 => k_is); (case b1 => k_is); (case b2 => k_is); (case b3 => k_is); (case b4 => k_is); (case b5 => k_is); (case b6 => k_is); (case b7 => k_is); (case b8 => k_is); (case c1 => k_is); (case c2 => decide +kernel); (case c3 => k_is); (case c4 => k_is); (case d1 => k_is); (case d2 => k_is); (case d3 => k_is); (case d4 => k_is); (case d5 => k_is))
    (case r2 => refine' VL.rai0 (VL.raiB ?a1 ?a2 ?a3 ?a4 ?a5 ?b1 ?b2 ?b3 ?b4 ?b5 ?b6 ?b7 ?b8) ?e1; (case a1 => k_is); (case a2 => k_is); (case a3 => k_is); (case a4 => k_is); (case a5 => k_is); (case b1 => k_is); (case b2 => k_is); (case b3 => k_is); (case b4 => k_is); (case b5 => k_is); (case b6 => k_is); (case b7 => k_is); (case b8 => k_is); (case e1 => first | rfl | decide +kernel | k_exc))
    (case r3 => refine' VL.rai1 (VL.raiB ?a1 ?a2 ?a3 ?a4 ?a5 ?b1 ?b2 ?b3 ?b4 ?b5 ?b6 ?b7 ?b8) ?c1 ?c2 ?c3 ?c4 ?d1 ?d2 ?d3 ?d4 ?d5; (case a1 => k_is); (case a2 => k_is); (case a3 => k_is); (case a4 => k_is); (case a5 => k_is); (case b1 => k_is); (case b2 => k_is); (case b3 => k_is); (case b4 => k_is); (case b5 => k_is); (case b6 => k_is); (case b7 => k_is); (case b8 => k_is); (case c1 => k_is); (case c2 => decide +kernel); (case c3 => k_is); (case c4 => k_is); (case d1 => k_is); (case d2 => k_is); (case d3 => k_is); (case d4 => k_is); (case d5 => k_is))
    (case r4 => refine' VL.rai1 (VL.raiB ?a1 ?a2 ?a3 ?a4 ?a5 ?b1 ?b2 ?b3 ?b4 ?b5 ?b6 ?b7 ?b8) ?c1 ?c2 ?c3 ?c4 ?d1 ?d2 ?d3 ?d4 ?d5; (case a1 => k_is); (case a2 => k_is); (case a3 => k_is); (case a4 => k_is); (case a5 => k_is); (case b1 => k_is); (case b2 => k_is); (case b3 => k_is); (case b4 => k_is); (case b5 => k_is); (case b6 => k_is); (case b7 => k_is); (case b8 => k_is); (case c1 => k_is); (case c2 => decide +kernel); (case c3 => k_is); (case c4 => k_is); (case d1 => k_is); (case d2 => k_is); (case d3 => k_is); (case d4 => k_is); (case d5 => k_is))
    (case r5 => refine' VL.rai0 (VL.raiB ?a1 ?a2 ?a3 ?a4 ?a5 ?b1 ?b2 ?b3 ?b4 ?b5 ?b6 ?b7 ?b8) ?e1; (case a1 => k_is); (case a2 => k_is); (case a3 => k_is); (case a4 => k_is); (case a5 => k_is); (case b1 => k_is); (case b2 => k_is); (case b3 => k_is); (case b4 => k_is); (case b5 => k_is); (case b6 => k_is); (case b7 => k_is); (case b8 => k_is); (case e1 => first | rfl | decide +kernel | k_exc))
    (case r6 => refine' VL.rai0 (VL.raiB ?a1 ?a2 ?a3 ?a4 ?a5 ?b1 ?b2 ?b3 ?b4 ?b5 ?b6 ?b7 ?b8) ?e1; (case a1 => k_is); (case a2 => k_is); (case a3 => k_is); (case a4 => k_is); (case a5 => k_is); (case b1 => k_is); (case b2 => k_is); (case b3 => k_is); (case b4 => k_is); (case b5 => k_is); (case b6 => k_is); (case b7 => k_is); (case b8 => k_is); (case e1 => first | rfl | decide +kernel | k_exc))
    (case r7 => refine' VL.rai1 (VL.raiB ?a1 ?a2 ?a3 ?a4 ?a5 ?b1 ?b2 ?b3 ?b4 ?b5 ?b6 ?b7 ?b8) ?c1 ?c2 ?c3 ?c4 ?d1 ?d2 ?d3 ?d4 ?d5; (case a1 => k_is); (case a2 => k_is); (case a3 => k_is); (case a4 => k_is); (case a5 => k_is); (case b1 => k_is); (case b2 => k_is); (case b3 => k_is); (case b4 => k_is); (case b5 => k_is); (case b6 => k_is); (case b7 => k_is); (case b8 => k_is); (case c1 => k_is); (case c2 => decide +kernel); (case c3 => k_is); (case c4 => k_is); (case d1 => k_is); (case d2 => k_is); (case d3 => k_is); (case d4 => k_is); (case d5 => k_is))
    (case r8 => refine' VL.rai1 (VL.raiB ?a1 ?a2 ?a3 ?a4 ?a5 ?b1 ?b2 ?b3 ?b4 ?b5 ?b6 ?b7 ?b8) ?c1 ?c2 ?c3 ?c4 ?d1 ?d2 ?d3 ?d4 ?d5; (case a1 => k_is); (case a2 => k_is); (case a3 => k_is); (case a4 => k_is); (case a5 => k_is); (case b1 => k_is); (case b2 => k_is); (case b3 => k_is); (case b4 => k_is); (case b5 => k_is); (case b6 => k_is); (case b7 => k_is); (case b8 => k_is); (case c1 => k_is); (case c2 => decide +kernel); (case c3 => k_is); (case c4 => k_is); (case d1 => k_is); (case d2 => k_is); (case d3 => k_is); (case d4 => k_is); (case d5 => k_is))
    (case kl0 => refine' VL.clsK ?a1 ?a2 ?a3 ?a4 ?a5 ?m1 ?m2 ?m3 ?m4 ?d3 ?d4 ?d5; (case a1 => k_is); (case a2 => k_is); (case a3 => k_is); (case a4 => k_is); (case a5 => k_is); (case m1 => k_is); (case m2 => k_is); (case m3 => k_is); (case m4 => k_is); (case d3 => k_is); (case d4 => k_is); (case d5 => k_is))
    (case kl1 => refine' VL.clsK ?a1 ?a2 ?a3 ?a4 ?a5 ?m1 ?m2 ?m3 ?m4 ?d3 ?d4 ?d5; (case a1 => k_is); (case a2 => k_is); (case a3 => k_is); (case a4 => k_is); (case a5 => k_is); (case m1 => k_is); (case m2 => k_is); (case m3 => k_is); (case m4 => k_is); (case d3 => k_is); (case d4 => k_is); (case d5 => k_is))
    (case kl2 => refine' VL.clsK ?a1 ?a2 ?a3 ?a4 ?a5 ?m1 ?m2 ?m3 ?m4 ?d3 ?d4 ?d5; (case a1 => k_is); (case a2 => k_is); (case a3 => k_is); (case a4 => k_is); (case a5 => k_is); (case m1 => k_is); (case m2 => k_is); (case m3 => k_is); (case m4 => k_is); (case d3 => k_is); (case d4 => k_is); (case d5 => k_is))
    (case qk0 => refine' VL.noAtK ?a1 ?a2; (case a1 => k_is); (case a2 => k_is))
    (case qk1 => refine' VL.noAtK ?a1 ?a2; (case a1 => k_is); (case a2 => k_is))
    (case qk2 => refine' VL.noAtK ?a1 ?a2; (case a1 => k_is); (case a2 => k_is))
    (case qk3 => refine' VL.conK ?a1 ?a2 ?a3 ?a4 ?a5; (case a1 => k_is); (case a2 => k_is); (case a3 => first | rfl | exact ⟨_, rfl⟩); (case a4 => k_is); (case a5 => decide +kernel))
    (case qk4 => refine' VL.methK ?a1 ?m2 ?m3 ?d3 ?d4 ?d5; (case a1 => k_is); (case m2 => k_is); (case m3 => k_is); (case d3 => k_is); (case d4 => k_is); (case d5 => k_is))
    (case qk5 => refine' VL.statK ?a1 ?m2 ?i1 ?i2 ?i3 ?i4 ?i5 ?i6 ?i7 ?c0 ?c1 ?c2 ?c3 ?d3 ?d4 ?d5; (case a1 => k_is); (case m2 => k_is); (case i1 => k_is); (case i2 => k_is); (case i3 => k_is); (case i4 => k_is); (case i5 => k_is); (case i6 => decide +kernel); (case i7 => k_is); (case c0 => k_is); (case c1 => k_is); (case c2 => k_is); (case c3 => k_is); (case d3 => k_is); (case d4 => k_is); (case d5 => k_is))
    (case qk6 => refine' VL.propK ?a1 ?m2 ?m3 ?m4 ?m5 ?d3 ?d4 ?d5; (case a1 => k_is); (case m2 => k_is); (case m3 => k_is); (case m4 => k_is); (case m5 => k_is); (case d3 => k_is); (case d4 => k_is); (case d5 => k_is))
    (case qk7 => refine' VL.propK ?a1 ?m2 ?m3 ?m4 ?m5 ?d3 ?d4 ?d5; (case a1 => k_is); (case m2 => k_is); (case m3 => k_is); (case m4 => k_is); (case m5 => k_is); (case d3 => k_is); (case d4 => k_is); (case d5 => k_is))
    (case qk8 => refine' VL.methK ?a1 ?m2 ?m3 ?d3 ?d4 ?d5; (case a1 => k_is); (case m2 => k_is); (case m3 => k_is); (case d3 => k_is); (case d4 => k_is); (case d5 => k_is))
    (case qk9 => refine' VL.methK ?a1 ?m2 ?m3 ?d3 ?d4 ?d5; (case a1 => k_is); (case m2 => k_is); (case m3 => k_is); (case d3 => k_is); (case d4 => k_is); (case d5 => k_is))
    (case qk10 => refine' VL.methK ?a1 ?m2 ?m3 ?d3 ?d4 ?d5; (case a1 => k_is); (case m2 => k_is); (case m3 => k_is); (case d3 => k_is); (case d4 => k_is); (case d5 => k_is))
    (case qk11 => refine' VL.methK ?a1 ?m2 ?m3 ?d3 ?d4 ?d5; (case a1 => k_is); (case m2 => k_is); (case m3 => k_is); (case d3 => k_is); (case d4 => k_is); (case d5 => k_is))
    (case qk12 => refine' VL.methK ?a1 ?m2 ?m3 ?d3 ?d4 ?d5; (case a1 => k_is); (case m2 => k_is); (case m3 => k_is); (case d3 => k_is); (case d4 => k_is); (case d5 => k_is))
    (case qk13 => refine' VL.methK ?a1 ?m2 ?m3 ?d3 ?d4 ?d5; (case a1 => k_is); (case m2 => k_is); (case m3 => k_is); (case d3 => k_is); (case d4 => k_is); (case d5 => k_is))
    (case qk14 => refine' VL.methK ?a1 ?m2 ?m3 ?d3 ?d4 ?d5; (case a1 => k_is); (case m2 => k_is); (case m3 => k_is); (case d3 => k_is); (case d4 => k_is); (case d5 => k_is))
    (case qk15 => refine' VL.methWK ?a1 ?m2 ?m3 ?l ?c ?k ?d ?r; (case a1 => k_is); (case m2 => k_is); (case m3 => k_is); (case l => k_is); (case c => k_is); (case k => k_is); (case d => k_is); (case r => first | rfl | exact ⟨_, rfl⟩))
    (case qk16 => refine' VL.methWK ?a1 ?m2 ?m3 ?l ?c ?k ?d ?r; (case a1 => k_is); (case m2 => k_is); (case m3 => k_is); (case l => k_is); (case c => k_is); (case k => k_is); (case d => k_is); (case r => first | rfl | exact ⟨_, rfl⟩))
    (case qk17 => refine' VL.methWK ?a1 ?m2 ?m3 ?l ?c ?k ?d ?r; (case a1 => k_is); (case m2 => k_is); (case m3 => k_is); (case l => k_is); (case c => k_is); (case k => k_is); (case d => k_is); (case r => first | rfl | exact ⟨_, rfl⟩))
    (case qk18 => refine' VL.methK ?a1 ?m2 ?m3 ?d3 ?d4 ?d5; (case a1 => k_is); (case m2 => k_is); (case m3 => k_is); (case d3 => k_is); (case d4 => k_is); (case d5 => k_is))
    (case qk19 => refine' VL.methK ?a1 ?m2 ?m3 ?d3 ?d4 ?d5; (case a1 => k_is); (case m2 => k_is); (case m3 => k_is); (case d3 => k_is); (case d4 => k_is); (case d5 => k_is))
    (case qk20 => refine' VL.methK ?a1 ?m2 ?m3 ?d3 ?d4 ?d5; (case a1 => k_is); (case m2 => k_is); (case m3 => k_is); (case d3 => k_is); (case d4 => k_is); (case d5 => k_is))
    (case qk21 => refine' VL.noAtK ?a1 ?a2; (case a1 => k_is); (case a2 => k_is))
    (case qk22 => refine' VL.noAtK ?a1 ?a2; (case a1 => k_is); (case a2 => k_is))
    (case qk23 => refine' VL.noAtK ?a1 ?a2; (case a1 => k_is); (case a2 => k_is))
    (case qk24 => refine' VL.conK ?a1 ?a2 ?a3 ?a4 ?a5; (case a1 => k_is); (case a2 => k_is); (case a3 => first | rfl | exact ⟨_, rfl⟩); (case a4 => k_is); (case a5 => decide +kernel))
    (case qk25 => refine' VL.methK ?a1 ?m2 ?m3 ?d3 ?d4 ?d5; (case a1 => k_is); (case m2 => k_is); (case m3 => k_is); (case d3 => k_is); (case d4 => k_is); (case d5 => k_is))
    (case qk26 => refine' VL.statK ?a1 ?m2 ?i1 ?i2 ?i3 ?i4 ?i5 ?i6 ?i7 ?c0 ?c1 ?c2 ?c3 ?d3 ?d4 ?d5; (case a1 => k_is); (case m2 => k_is); (case i1 => k_is); (case i2 => k_is); (case i3 => k_is); (case i4 => k_is); (case i5 => k_is); (case i6 => decide +kernel); (case i7 => k_is); (case c0 => k_is); (case c1 => k_is); (case c2 => k_is); (case c3 => k_is); (case d3 => k_is); (case d4 => k_is); (case d5 => k_is))
    (case qk27 => refine' VL.propK ?a1 ?m2 ?m3 ?m4 ?m5 ?d3 ?d4 ?d5; (case a1 => k_is); (case m2 => k_is); (case m3 => k_is); (case m4 => k_is); (case m5 => k_is); (case d3 => k_is); (case d4 => k_is); (case d5 => k_is))
    (case qk28 => refine' VL.propK ?a1 ?m2 ?m3 ?m4 ?m5 ?d3 ?d4 ?d5; (case a1 => k_is); (case m2 => k_is); (case m3 => k_is); (case m4 => k_is); (case m5 => k_is); (case d3 => k_is); (case d4 => k_is); (case d5 => k_is))
    (case qk29 => refine' VL.methK ?a1 ?m2 ?m3 ?d3 ?d4 ?d5; (case a1 => k_is); (case m2 => k_is); (case m3 => k_is); (case d3 => k_is); (case d4 => k_is); (case d5 => k_is))
    (case qk30 => refine' VL.methK ?a1 ?m2 ?m3 ?d3 ?d4 ?d5; (case a1 => k_is); (case m2 => k_is); (case m3 => k_is); (case d3 => k_is); (case d4 => k_is); (case d5 => k_is))
    (case qk31 => refine' VL.methK ?a1 ?m2 ?m3 ?d3 ?d4 ?d5; (case a1 => k_is); (case m2 => k_is); (case m3 => k_is); (case d3 => k_is); (case d4 => k_is); (case d5 => k_is))
    (case qk32 => refine' VL.methK ?a1 ?m2 ?m3 ?d3 ?d4 ?d5; (case a1 => k_is); (case m2 => k_is); (case m3 => k_is); (case d3 => k_is); (case d4 => k_is); (case d5 => k_is))
    (case qk33 => refine' VL.methK ?a1 ?m2 ?m3 ?d3 ?d4 ?d5; (case a1 => k_is); (case m2 => k_is); (case m3 => k_is); (case d3 => k_is); (case d4 => k_is); (case d5 => k_is))
    (case qk34 => refine' VL.methK ?a1 ?m2 ?m3 ?d3 ?d4 ?d5; (case a1 => k_is); (case m2 => k_is); (case m3 => k_is); (case d3 => k_is); (case d4 => k_is); (case d5 => k_is))
    (case qk35 => refine' VL.propK ?a1 ?m2 ?m3 ?m4 ?m5 ?d3 ?d4 ?d5; (case a1 => k_is); (case m2 => k_is); (case m3 => k_is); (case m4 => k_is); (case m5 => k_is); (case d3 => k_is); (case d4 => k_is); (case d5 => k_is))
    (case qk36 => refine' VL.methK ?a1 ?m2 ?m3 ?d3 ?d4 ?d5; (case a1 => k_is); (case m2 => k_is); (case m3 => k_is); (case d3 => k_is); (case d4 => k_is); (case d5 => k_is))
    (case qk37 => refine' VL.methWK ?a1 ?m2 ?m3 ?l ?c ?k ?d ?r; (case a1 => k_is); (case m2 => k_is); (case m3 => k_is); (case l => k_is); (case c => k_is); (case k => k_is); (case d => k_is); (case r => first | rfl | exact ⟨_, rfl⟩))
    (case qk38 => refine' VL.methWK ?a1 ?m2 ?m3 ?l ?c ?k ?d ?r; (case a1 => k_is); (case m2 => k_is); (case m3 => k_is); (case l => k_is); (case c => k_is); (case k => k_is); (case d => k_is); (case r => first | rfl | exact ⟨_, rfl⟩))
    (case qk39 => refine' VL.propK ?a1 ?m2 ?m3 ?m4 ?m5 ?d3 ?d4 ?d5; (case a1 => k_is); (case m2 => k_is); (case m3 => k_is); (case m4 => k_is); (case m5 => k_is); (case d3 => k_is); (case d4 => k_is); (case d5 => k_is))
    (case qk40 => refine' VL.methWK ?a1 ?m2 ?m3 ?l ?c ?k ?d ?r; (case a1 => k_is); (case m2 => k_is); (case m3 => k_is); (case l => k_is); (case c => k_is); (case k => k_is); (case d => k_is); (case r => first | rfl | exact ⟨_, rfl⟩))
    (case qk41 => refine' VL.methK ?a1 ?m2 ?m3 ?d3 ?d4 ?d5; (case a1 => k_is); (case m2 => k_is); (case m3 => k_is); (case d3 => k_is); (case d4 => k_is); (case d5 => k_is))
    (case qk42 => refine' VL.supK ?a1 ?m2 ?m3 ?d3 ?d4 ?d5 ?s1 ?s2 ?s3 ?s4 ?s5 ?s6 ?s7 ?s8 ?s9 ?t1 ?t2 ?e3 ?e4 ?e5; (case a1 => k_is); (case m2 => k_is); (case m3 => k_is); (case d3 => k_is); (case d4 => k_is); (case d5 => k_is); (case s1 => k_is); (case s2 => rfl); (case s3 => first | rfl | decide +kernel); (case s4 => k_is); (case s5 => k_is); (case s6 => k_is); (case s7 => k_is); (case s8 => first | rfl | decide +kernel); (case s9 => ks_is); (case t1 => k_is); (case t2 => k_is); (case e3 => k_is); (case e4 => k_is); (case e5 => k_is))
    (case qk43 => refine' VL.methK ?a1 ?m2 ?m3 ?d3 ?d4 ?d5; (case a1 => k_is); (case m2 => k_is); (case m3 => k_is); (case d3 => k_is); (case d4 => k_is); (case d5 => k_is))
    (case kn0 => refine' VL.noAtK ?a1 ?a2; (case a1 => k_is); (case a2 => k_is))
    (case kn1 => refine' VL.noAtK ?a1 ?a2; (case a1 => k_is); (case a2 => k_is))
    (case kn2 => refine' VL.noAtK ?a1 ?a2; (case a1 => k_is); (case a2 => k_is))
    (case kn3 => refine' VL.noAtK ?a1 ?a2; (case a1 => k_is); (case a2 => k_is))
    (case kn4 => refine' VL.noAtK ?a1 ?a2; (case a1 => k_is); (case a2 => k_is))
    (case kn5 => refine' VL.noAtK ?a1 ?a2; (case a1 => k_is); (case a2 => k_is))
    (case kn6 => refine' VL.noAtK ?a1 ?a2; (case a1 => k_is); (case a2 => k_is))
    (case km0 => refine' VL.methK ?a1 ?m2 ?m3 ?d3 ?d4 ?d5; (case a1 => k_is); (case m2 => k_is); (case m3 => k_is); (case d3 => k_is); (case d4 => k_is); (case d5 => k_is))
    (case km1 => refine' VL.methK ?a1 ?m2 ?m3 ?d3 ?d4 ?d5; (case a1 => k_is); (case m2 => k_is); (case m3 => k_is); (case d3 => k_is); (case d4 => k_is); (case d5 => k_is))
    (case km2 => refine' VL.methK ?a1 ?m2 ?m3 ?d3 ?d4 ?d5; (case a1 => k_is); (case m2 => k_is); (case m3 => k_is); (case d3 => k_is); (case d4 => k_is); (case d5 => k_is))
