import PyProof.Rows.All
import PySem.Challenge.RW_matesline_k23_whole_one_verdict_of_three
import HandS.ForMost
import HandS.ForExc
import HandS.TupAny
import HandS.TupMul
import HandS.More
import HandS.Style
import HandS.IsInst
import HandS.Deep
import KE.DataEq
import HandS.RaiseMore
import KE.KIndexOf
import PyProof.SeqIndex
import PyProof.EqAt
import HandS.Iter
import HandS.Zip
import HandS.Rev
import KE.GoesMore
import KE.GoesEnum
import HandS.Comp
import HandS.WordsExc
import HandS.ExcOwn
import PyProof.ReprReads
import PyProof.ReprRoads
import HandS.Ends
import HandS.Dict
import KE.KRevSl
import HandS.AnyAll
import HandS.Text
import PyProof.ReprLen
import PyProof.Rows.ReprOcc
import HandS.StrMore
import HandS.Strs
import HandS.SetFor
import HandS.Steps
import HandS.ExcInit
import HandS.ExcField
import HandS.ExcIs
import HandS.Small
import KE.KIsAll
import HandS.Star
import HandS.SortInts
import HandS.TupSets
import HandS.Conv
import HandS.SortRule
import PyProof.ListStr
import HandS.Flow
import HandS.Lambda
import HandS.EndTab
import KE.KNest
import HandS.EndOwn
import HandS.HotCalls
import HandS.Defaults
import HandS.CallSlots
import HandS.Replace
import KE.DataMinMax
import HandS.NoneIn
import PyProof.EqKinds
import KE.KEqDict
import PyProof.Rows.SortShellAny
import KE.KDictZip
import KE.KItemsList
import HandS.ListItems
import KE.KDictList
import HandS.Keys
import Flt.Ops
import PyProof.FString5
import HandS.SetTxt0
import KE.SortKeyed
import KE.SortData
import HandS.GenList
import HandS.GenOver
import PyProof.LongRange
import PyProof.NeKinds
import HandS.Property
import HandS.ClsMeth
import HandS.FStr
import HandS.SlotsOwn
import KE.KCallOwn
import HandS.Finally
import HandS.Nested
import KE.KSuper
import HandS.TryOnly
set_option Elab.async false
set_option linter.all false
set_option maxRecDepth 100000
set_option maxHeartbeats 4000000
namespace VL
open PySem PySem.Spec PyProof.Rows L2
/-! ## tuples whose very object is known (so that it has no dict of its own) -/
abbrev tob (its : List Value) : Obj := { cls := .type "tuple", data := .seq its.toArray }
/-- a held tuple -/
abbrev HO.th (o : Obj) (xs : List V) : HO := .frz o (.tup xs)
theorem th_ok {P : Program} {w : World} {H : Hp} {h : Heap} {a : Addr} {xs : List V} {its : List Value} (hz : xs.length ≤ sizeLine) (r : Vals xs its) (e : h.get? a = some (tob its)) : ObjOk P w H h a (HO.th (tob its) xs) :=
  ⟨e, hz, its, r, ⟨_, e, rfl, _, rfl⟩⟩
theorem SqT.th {K : PySem.W.Frag} {H : Hp} {a : Addr} {o : Obj} {xs : List V} (h : H a = some (HO.th o xs)) : SqT K H a xs := .inl (.inr ⟨o, h⟩)
/-- what is wanted of a new tuple -/
abbrev NewT (H : Hp) (xs : List V) (Q : VK) : Prop := ∀ (p : Addr) (o : Obj), H p = none → o.dict = none → Q (.ref p) (upd H p (HO.th o xs))
section
variable {X : Cx} {e : Expr} {es : List Expr} {te : TE} {t : TA} {pos : Pos} {pins : List (Addr × Obj)} {σ : L2.St} {H : Hp} {s : Shared} {Q : VK}
theorem new_th {xs : List V} {its : List Value} {tk : Nat} (I : Inv X pins σ H s) (hz : xs.length ≤ sizeLine) (r : Vals xs its) (q : NewT H xs Q) : EP X pins σ Q (.ref s.heap.objs.size) { s with heap := s.heap.push (tob its), toks := tk } :=
  ⟨.ref s.heap.objs.size, upd H s.heap.objs.size (HO.th (tob its) xs), I.laid (t' := tk) (fun _ _ e => Heap.get?_push_of_some _ e) (Nat.le_refl _) (th_ok hz r (Heap.get?_push_size _ rfl)), rfl, q _ _ (I.hok.fresh (Nat.le_refl _)) rfl⟩
def tTupF (t : TA) : TE := fun σ H Q => t σ H fun xs H1 => xs.length ≤ sizeLine ∧ NewT H1 xs Q
theorem pe_tupF {x1} (h : PA X es t) : PE X (.Tuple es x1 pos) (tTupF t) := by
  refine ⟨fun pins s σ H Q I hq => wpAny_Tuple_spliced (thn (h.run pos pins s σ H _ I hq) ?_)⟩
  rintro us s1 ⟨xs, H1, I1, r, z, q⟩
  exact ⟨Nat.le_trans (Nat.le_of_eq r.length.symm) z, new_th (tk := s1.toks) I1 z r q⟩
def rCatF (K : PySem.W.Frag) : R2 := fun x y H Q => ∃ a c xs ys, x = .ref a ∧ y = .ref c ∧ SqT K H a xs ∧ SqT K H c ys ∧ xs.length + ys.length ≤ sizeLine ∧
  (xs = [] → Q (.ref c) H) ∧ (xs ≠ [] → ys = [] → Q (.ref a) H) ∧ (xs ≠ [] → ys ≠ [] → NewT H (xs ++ ys) Q)
theorem op_catF : OpR X (binaryOp .Add) (rCatF X.K) := by
  intro pins s σ H x y v u Q I rx ry ⟨a, c, xs, ys, ex, ey, ha, hc, hz, q0, q1, q2⟩
  subst ex ey
  obtain rfl : v = .ref a := rx
  obtain rfl : u = .ref c := ry
  obtain ⟨i1, r1, p1, _⟩ := I.tuple ha
  obtain ⟨i2, r2, p2, _⟩ := I.tuple hc
  cases xs with
  | nil =>
    cases r1
    exact cat_tup0 p1 p2 ⟨.ref c, H, I, rfl, q0 rfl⟩
  | cons x0 xr =>
    have hx : x0 :: xr ≠ [] := by simp
    refine HT.cat_tup p1 p2 (fun z => hx (r1.nil_iff.mp z)) (fun z => ⟨.ref a, H, I, rfl, q1 hx (r2.nil_iff.mp z)⟩) (fun z => ?_) (by have h1 := r1.length; have h2 := r2.length; omega)
    exact new_th (tk := s.toks) I (by rw [List.length_append]; exact hz) (r1.append r2) (q2 hx fun w => z (r2.nil_iff.mpr w))
def rSlF (K : PySem.W.Frag) : V → Option Int → Option Int → Hp → VK → Prop := fun x lo hi H Q => ∃ a xs, x = .ref a ∧ SqT K H a xs ∧
  (HT.sIx xs.length 0 lo = 0 ∧ HT.sIx xs.length xs.length hi = xs.length → Q (.ref a) H) ∧ (¬ (HT.sIx xs.length 0 lo = 0 ∧ HT.sIx xs.length xs.length hi = xs.length) → NewT H (cutV xs lo hi) Q)
theorem sl_tupF : SlR X (rSlF X.K) := by
  intro pins s σ H x v vl vu lo hi sl Q I rx hs pl pu ⟨a, xs, ex, hx, q1, q2⟩
  subst ex
  obtain rfl : v = .ref a := rx
  obtain ⟨its, r, ht, hz⟩ := I.tuple hx
  have hn : its.toArray.size = xs.length := by rw [List.size_toArray, r.length]
  refine ⟨"tuple", _, PyProof.Rows.slot_tuple_getitem.lookup, ht.typeIs, ?_⟩
  by_cases hw : HT.sIx xs.length 0 lo = 0 ∧ HT.sIx xs.length xs.length hi = xs.length
  · exact getItem_tuple_whole ht hs pl pu (by rw [hn]; exact hw) ⟨.ref a, H, I, rfl, q1 hw⟩
  · refine HT.getItem_tuple_cut ht hs pl pu (by rw [hn]; exact hw) ?_ (by rw [hn]; exact hz)
    rw [hn]
    exact new_th (tk := s.toks) I (Nat.le_trans (cutV_length xs lo hi) hz) ((r.drop _).take _) (q2 hw)
def rTupOf (K : PySem.W.Frag) : List V → Hp → VK → Prop := fun xs H Q => ∃ p ys, xs = [.ref p] ∧ ((SqL K H p ys ∧ NewT H ys Q) ∨ (SqT K H p ys ∧ Q (.ref p) H))
theorem call_tupF : CallR X (.type "tuple") (rTupOf X.K) := by
  intro pins s σ H xs us Q I r ⟨p, ys, ex, h⟩
  subst ex
  obtain ⟨u, rfl, ru⟩ := vals1 r
  obtain rfl : u = .ref p := ru
  rcases h with ⟨hq, q⟩ | ⟨hq, q⟩
  · obtain ⟨its, r', pl, hz⟩ := I.list hq
    refine call_tuple_list pl.isList (fun h' kp => ?_) (by rw [List.size_toArray, ← r'.length]; exact hz)
    exact new_th (s := { s with heap := h' }) (tk := s.toks) (I.kept (t' := s.toks) kp) hz r' q
  · obtain ⟨its, r', pl, hz⟩ := I.tuple hq
    exact call_tuple_same pl ⟨.ref p, H, I, rfl, q⟩
def rRepF (K : PySem.W.Frag) : R2 := fun x y H Q => ∃ l k xs, x = .ref l ∧ y = .int k ∧ SqT K H l xs ∧ xs ≠ [] ∧ 2 ≤ k ∧ k ≤ 1000 ∧ xs.length ≤ 1000 ∧ NewT H (List.replicate k.toNat xs).flatten Q
theorem op_repF : OpR X (binaryOp .Mult) (rRepF X.K) := by
  intro pins s σ H x y v u Q I rx ry ⟨l, k, xs, ex, ey, hT, hne, h2, h3, hz, q⟩
  subst ex ey
  obtain rfl : v = .ref l := rx
  obtain ⟨t, rfl⟩ := ry
  obtain ⟨its, r, ⟨o, ho, hc, n, hd⟩, hs⟩ := I.tuple hT
  obtain ⟨oc, dd, dt, slt⟩ := o
  obtain rfl : oc = .type "tuple" := hc
  obtain rfl : dt = .seq its.toArray n := hd
  have hle : its.length = xs.length := r.length.symm
  have hi : its.toArray.isEmpty = false := by
    cases xs with
    | nil => exact absurd rfl hne
    | cons _ _ => cases r; rfl
  have hsz : its.toArray.size = xs.length := by rw [List.size_toArray, hle]
  have hm : ((its.toArray.size : Nat) : Int) * k ≤ 1000000 := by
    rw [hsz]
    exact Int.le_trans (Int.mul_le_mul_of_nonneg_right (show ((xs.length : Nat) : Int) ≤ 1000 by omega) (by omega)) (by omega)
  have fl : (List.replicate k.toNat xs).flatten.length ≤ sizeLine := by
    rw [PyProof.Rows.lm_len_rep_flat, sizeLine_eq]
    exact Nat.le_trans (Nat.mul_le_mul (show k.toNat ≤ 1000 by omega) hz) (by decide)
  have fl2 : (List.replicate k.toNat its).flatten.length ≤ sizeLine := by
    rw [PyProof.Rows.lm_len_rep_flat, hle, ← PyProof.Rows.lm_len_rep_flat]
    exact fl
  have c1 : (its.toArray.isEmpty || k == 1) = false := by simp only [hi, Bool.false_or]; exact beq_eq_false_iff_ne.mpr (by omega)
  have c2 : (decide (k ≤ 0) || its.toArray.isEmpty) = false := by simp only [hi, Bool.or_false]; exact decide_eq_false (by omega)
  have c4 : Builtin.Tuple.tupleTooMany (((its.toArray.size : Nat) : Int) * k) = false := by
    unfold Builtin.Tuple.tupleTooMany
    simp only [sizeLine_eq]
    exact decide_eq_false (by omega)
  have road := tuple_mulW l its.toArray n dd slt k t (by simp; omega) c1 c2 (by omega) c4 (by rw [size_rep, List.size_toArray]; exact fl2)
  refine wpAny_binaryOp_repeat_ref (U := "int") (T := "tuple") (by decide) ⟨_, ho, rfl⟩ (typeIs_int · k t) noFill_tuple_mul F.fills_int_mul F.slot_int_rmul repeat_tuple F.slot_int_index.lookup ?_
  refine call_meets F.slot_int_rmul (typeIs_int s k t) F.entry_int_rmul (F.args_int_rmul_2 _ _) (int_rmul_tuple k t l its.toArray n dd slt) ⟨ho, rfl, ⟨_, ho, rfl⟩, ?_⟩
  refine call_meets F.slot_tuple_mul ⟨_, ho, rfl⟩ F.entry_tuple_mul (F.args_tuple_mul_2 _ _) road ⟨ho, ?_⟩
  rw [size_rep]
  exact new_th (tk := s.toks) I fl (r.rep k.toNat) q
end
end VL
set_option Elab.async false
set_option linter.all false
set_option maxRecDepth 100000
set_option maxHeartbeats 4000000
namespace VL
open PySem PySem.Spec PyProof.Rows L2
/-- things that no rule here writes -/
def still : HO → Prop
  | .ext φ => ∃ (h : Heap) (a : Addr) (o : Obj) (vs : Array Value), φ h ∧ h.get? a = some o ∧ o.data = .fields vs ∧ ∀ c, c ≠ a → h.get? c = none
  | .frz _ (.lst _) => True
  | _ => False
/-- any other thing, by what is true of it at its address -/
structure Abs where
  R : (Addr → Prop) → Hp → Addr → Prop
  at_ : ∀ {Z H a}, R Z H a → ∃ o, H a = some o
  noext : ∀ {Z H a}, R Z H a → ∀ o : HO, still o → H a ≠ some o
  mono : ∀ {Z Z' : Addr → Prop} {H H' : Hp} {a : Addr}, (∀ a, Z' a → Z a ∨ H a = none) → (∀ a o, H a = some o → ¬ Z a → H' a = some o) → (∀ o, H a = some o → H' a = some o) → R Z H a → R Z' H' a
/-- what a field of an object that changes may be worth: plain data, a tuple of objects of a class, another object -/
inductive FV where
  | py (p : PyData)
  | tps (n : Str) (L : List (List (Str × PyData)))
  | adr (a : Addr)
/-- any claim about a value that later steps keep -/
structure Clm where
  R : (Str → Addr) → (Addr → Prop) → Hp → V → Prop
  mono : ∀ {cls : Str → Addr} {Z Z' : Addr → Prop} {H H' : Hp} {v : V}, (∀ a, Z' a → Z a ∨ H a = none) → (∀ a o, H a = some o → ¬ Z a → H' a = some o) → R cls Z H v → R cls Z' H' v
/-- what a value is worth: plain data, an own object of plain data that stands still, a value as it is -/
inductive D where
  | py (p : PyData)
  | obj (a : Addr) (n : Str) (fs : List (Str × PyData))
  | raw (v : V)
  | err (a : Addr) (d : Option Addr) (n : Str) (fs : List (Str × PyData))
  | abs (A : Abs)
  | tps (n : Str) (L : List (List (Str × PyData)))
  | rob (a : Addr) (n : Str) (fs : List (Str × FV))
  | cls (n : Str)
  | clm (C : Clm)
@[simp] def kD : Key → PyData
  | .inl i => .int i
  | .inr x => .str x
mutual
/-- v is worth d in H; nothing that it reaches lies in Z -/
inductive Rq (Z : Addr → Prop) (H : Hp) : V → PyData → Prop
  | non : Rq Z H .non .none
  | bl (k : Bool) : Rq Z H (.bl k) (.bool k)
  | int (i : Int) : Rq Z H (.int i) (.int i)
  | str (x : Str) : Rq Z H (.str x) (.str x)
  | lst {a : Addr} {xs : List V} {ds : List PyData} : H a = some (.lst xs) → ¬ Z a → Rqs Z H xs ds → Rq Z H (.ref a) (.list ds)
  | tup {a : Addr} {o : Obj} {xs : List V} {ds : List PyData} : H a = some (HO.th o xs) → o.dict = none → ¬ Z a → Rqs Z H xs ds → Rq Z H (.ref a) (.tuple ds)
  | dct {a : Addr} {kvs : List (Key × V)} {ds : List (PyData × PyData)} : H a = some (.dK kvs) → ¬ Z a → Rqk Z H kvs ds → Rq Z H (.ref a) (.dict ds)
inductive Rqs (Z : Addr → Prop) (H : Hp) : List V → List PyData → Prop
  | nil : Rqs Z H [] []
  | cons {v : V} {d : PyData} {vs : List V} {ds : List PyData} : Rq Z H v d → Rqs Z H vs ds → Rqs Z H (v :: vs) (d :: ds)
inductive Rqk (Z : Addr → Prop) (H : Hp) : List (Key × V) → List (PyData × PyData) → Prop
  | nil : Rqk Z H [] []
  | cons {k : Key} {v : V} {d : PyData} {vs : List (Key × V)} {ds : List (PyData × PyData)} : Rq Z H v d → Rqk Z H vs ds → Rqk Z H ((k, v) :: vs) ((kD k, d) :: ds)
end
section
variable {Z Z' : Addr → Prop} {H H' : Hp}
mutual
theorem Rq.mono (hz : ∀ a, Z' a → Z a ∨ H a = none) (hs : ∀ a o, H a = some o → ¬ Z a → H' a = some o) : ∀ {v : V} {d : PyData}, Rq Z H v d → Rq Z' H' v d
  | _, _, .non => .non
  | _, _, .bl k => .bl k
  | _, _, .int i => .int i
  | _, _, .str x => .str x
  | _, _, .lst e n r => .lst (hs _ _ e n) (fun z => (hz _ z).elim n fun q => by rw [e] at q; cases q) (Rqs.mono hz hs r)
  | _, _, .tup e d n r => .tup (hs _ _ e n) d (fun z => (hz _ z).elim n fun q => by rw [e] at q; cases q) (Rqs.mono hz hs r)
  | _, _, .dct e n r => .dct (hs _ _ e n) (fun z => (hz _ z).elim n fun q => by rw [e] at q; cases q) (Rqk.mono hz hs r)
theorem Rqs.mono (hz : ∀ a, Z' a → Z a ∨ H a = none) (hs : ∀ a o, H a = some o → ¬ Z a → H' a = some o) : ∀ {v : List V} {d : List PyData}, Rqs Z H v d → Rqs Z' H' v d
  | _, _, .nil => .nil
  | _, _, .cons r t => .cons (Rq.mono hz hs r) (Rqs.mono hz hs t)
theorem Rqk.mono (hz : ∀ a, Z' a → Z a ∨ H a = none) (hs : ∀ a o, H a = some o → ¬ Z a → H' a = some o) : ∀ {v : List (Key × V)} {d : List (PyData × PyData)}, Rqk Z H v d → Rqk Z' H' v d
  | _, _, .nil => .nil
  | _, _, .cons r t => .cons (Rq.mono hz hs r) (Rqk.mono hz hs t)
end
theorem Rqs.length : ∀ {v : List V} {d : List PyData}, Rqs Z H v d → v.length = d.length
  | _, _, .nil => rfl
  | _, _, .cons _ t => congrArg (· + 1) (Rqs.length t)
theorem Rqk.length : ∀ {v : List (Key × V)} {d : List (PyData × PyData)}, Rqk Z H v d → v.length = d.length
  | _, _, .nil => rfl
  | _, _, .cons _ t => congrArg (· + 1) (Rqk.length t)
theorem Rqs.append : ∀ {v w : List V} {d e : List PyData}, Rqs Z H v d → Rqs Z H w e → Rqs Z H (v ++ w) (d ++ e)
  | _, _, _, _, .nil, s => s
  | _, _, _, _, .cons r t, s => .cons r (Rqs.append t s)
theorem Rqs.get : ∀ {v : List V} {d : List PyData} {i : Nat} {x : PyData}, Rqs Z H v d → d[i]? = some x → ∃ u, v[i]? = some u ∧ Rq Z H u x
  | _, _, _, _, .nil, e => by simp at e
  | _, _, 0, _, .cons r _, e => by simp at e; subst e; exact ⟨_, rfl, r⟩
  | _, _, i + 1, x, .cons _ t, e => by
    obtain ⟨u, h1, h2⟩ := Rqs.get (i := i) (x := x) t (by simpa using e)
    exact ⟨u, by simpa using h1, h2⟩
theorem Rqs.take : ∀ {v : List V} {d : List PyData} (n : Nat), Rqs Z H v d → Rqs Z H (v.take n) (d.take n)
  | _, _, 0, _ => .nil
  | _, _, _ + 1, .nil => .nil
  | _, _, n + 1, .cons r t => .cons r (Rqs.take n t)
theorem Rqs.drop : ∀ {v : List V} {d : List PyData} (n : Nat), Rqs Z H v d → Rqs Z H (v.drop n) (d.drop n)
  | _, _, 0, r => r
  | _, _, _ + 1, .nil => .nil
  | _, _, n + 1, .cons _ t => Rqs.drop n t
theorem Rqs.set {u : V} {x : PyData} (r : Rq Z H u x) : ∀ {v : List V} {d : List PyData} (n : Nat), Rqs Z H v d → Rqs Z H (v.set n u) (d.set n x)
  | _, _, _, .nil => .nil
  | _, _, 0, .cons _ t => .cons r t
  | _, _, n + 1, .cons q t => .cons q (Rqs.set r n t)
theorem Rqs.rep {v : List V} {d : List PyData} (r : Rqs Z H v d) : ∀ n : Nat, Rqs Z H (List.replicate n v).flatten (List.replicate n d).flatten
  | 0 => .nil
  | n + 1 => by rw [List.replicate_succ, List.replicate_succ, List.flatten_cons, List.flatten_cons]; exact r.append (Rqs.rep r n)
/-- ints are ints -/
theorem Rqs.ints : ∀ {v : List V} {ns : List Int}, Rqs Z H v (ns.map PyData.int) → v = ns.map V.int
  | _, [], .nil => rfl
  | _, n :: ns, .cons r t => by
    cases r
    rw [List.map_cons, Rqs.ints t]
theorem Rqs.bools : ∀ {v : List V} {ns : List Bool}, Rqs Z H v (ns.map PyData.bool) → v = ns.map V.bl
  | _, [], .nil => rfl
  | _, n :: ns, .cons r t => by
    cases r
    rw [List.map_cons, Rqs.bools t]
theorem Rqs.of_ints : ∀ (ns : List Int), Rqs Z H (ns.map V.int) (ns.map PyData.int)
  | [] => .nil
  | n :: ns => .cons (.int n) (Rqs.of_ints ns)
end
/-- what surrounds the code: the classes' addresses, what others may change (B) while G stands -/
structure Bg where
  cls : Str → Addr
  B : Addr → Prop
  G : Hp → Prop
  loc : ∀ H H' : Hp, (∀ a, B a → H' a = H a) → (∀ a o, still o → H a = some o → H' a = some o) → G H → G H'
  dom : ∀ (H : Hp) (a : Addr), G H → B a → H a ≠ none
/-- an error: its class's name, its fields -/
structure Er where
  n : Str
  fs : List (Str × PyData)
/-- fields -/
inductive Rqf (Z : Addr → Prop) (H : Hp) : List (Str × V) → List (Str × PyData) → Prop
  | nil : Rqf Z H [] []
  | cons {k : Str} {v : V} {d : PyData} {vs : List (Str × V)} {ds : List (Str × PyData)} : Rq Z H v d → Rqf Z H vs ds → Rqf Z H ((k, v) :: vs) ((k, d) :: ds)
section
variable {Z Z' : Addr → Prop} {H H' : Hp}
theorem Rqf.mono (hz : ∀ a, Z' a → Z a ∨ H a = none) (hs : ∀ a o, H a = some o → ¬ Z a → H' a = some o) : ∀ {v : List (Str × V)} {d : List (Str × PyData)}, Rqf Z H v d → Rqf Z' H' v d
  | _, _, .nil => .nil
  | _, _, .cons r t => .cons (r.mono hz hs) (Rqf.mono hz hs t)
end
/-- objects of the class at C, by their fields -/
inductive Rqo (C : Addr) (Z : Addr → Prop) (H : Hp) : List V → List (List (Str × PyData)) → Prop
  | nil : Rqo C Z H [] []
  | cons {a dx : Addr} {xs : List (Str × V)} {fs : List (Str × PyData)} {vs : List V} {L : List (List (Str × PyData))} : H a = some (.ins C dx xs) → ¬ Z a → Rqf Z H xs fs → Rqo C Z H vs L → Rqo C Z H (.ref a :: vs) (fs :: L)
/-- a tuple of such objects -/
def RpT (cls : Str → Addr) (Z : Addr → Prop) (H : Hp) (v : V) (n : Str) (L : List (List (Str × PyData))) : Prop := ∃ c o xs, v = .ref c ∧ H c = some (HO.th o xs) ∧ o.dict = none ∧ ¬ Z c ∧ Rqo (cls n) Z H xs L
/-- a field's value is worth it -/
def RFv (cls : Str → Addr) (Z : Addr → Prop) (H : Hp) (v : V) : FV → Prop
  | .py p => Rq Z H v p
  | .tps n L => RpT cls Z H v n L
  | .adr a => v = .ref a
inductive RFs (cls : Str → Addr) (Z : Addr → Prop) (H : Hp) : List (Str × V) → List (Str × FV) → Prop
  | nil : RFs cls Z H [] []
  | cons {k : Str} {v : V} {d : FV} {vs : List (Str × V)} {ds : List (Str × FV)} : RFv cls Z H v d → RFs cls Z H vs ds → RFs cls Z H ((k, v) :: vs) ((k, d) :: ds)
section
variable {cls : Str → Addr} {C : Addr} {Z Z' : Addr → Prop} {H H' : Hp}
theorem Rqo.mono (hz : ∀ a, Z' a → Z a ∨ H a = none) (hs : ∀ a o, H a = some o → ¬ Z a → H' a = some o) : ∀ {v : List V} {L : List (List (Str × PyData))}, Rqo C Z H v L → Rqo C Z' H' v L
  | _, _, .nil => .nil
  | _, _, .cons e n r t => .cons (hs _ _ e n) (fun z => (hz _ z).elim n fun q => by rw [e] at q; cases q) (r.mono hz hs) (Rqo.mono hz hs t)
theorem RpT.mono (hz : ∀ a, Z' a → Z a ∨ H a = none) (hs : ∀ a o, H a = some o → ¬ Z a → H' a = some o) {v : V} {n : Str} {L : List (List (Str × PyData))} (r : RpT cls Z H v n L) : RpT cls Z' H' v n L := by
  obtain ⟨c, o, xs, ev, e, d, nz, q⟩ := r
  exact ⟨c, o, xs, ev, hs _ _ e nz, d, fun z => (hz _ z).elim nz (fun q => by rw [e] at q; cases q), q.mono hz hs⟩
theorem RFv.mono (hz : ∀ a, Z' a → Z a ∨ H a = none) (hs : ∀ a o, H a = some o → ¬ Z a → H' a = some o) {v : V} {d : FV} (r : RFv cls Z H v d) : RFv cls Z' H' v d := by
  cases d with
  | py p => exact Rq.mono hz hs r
  | tps n L => exact RpT.mono hz hs r
  | adr a => exact r
theorem RFs.mono (hz : ∀ a, Z' a → Z a ∨ H a = none) (hs : ∀ a o, H a = some o → ¬ Z a → H' a = some o) : ∀ {v : List (Str × V)} {d : List (Str × FV)}, RFs cls Z H v d → RFs cls Z' H' v d
  | _, _, .nil => .nil
  | _, _, .cons r t => .cons (r.mono hz hs) (RFs.mono hz hs t)
end
/-- v is worth d -/
def Rp (b : Bg) (Z : Addr → Prop) (H : Hp) (v : V) : D → Prop
  | .py p => Rq Z H v p
  | .obj a n fs => ∃ dx xs, v = .ref a ∧ H a = some (.ins (b.cls n) dx xs) ∧ ¬ Z a ∧ Rqf Z H xs fs
  | .abs A => ∃ a, v = .ref a ∧ ¬ Z a ∧ A.R Z H a
  | .tps n L => RpT b.cls Z H v n L
  | .rob a n fs => ∃ dx xs, v = .ref a ∧ H a = some (.ins (b.cls n) dx xs) ∧ ¬ Z a ∧ RFs b.cls Z H xs fs
  | .cls n => v = .ref (b.cls n)
  | .clm C => C.R b.cls Z H v
  | .raw u => v = u
  | .err a d _ fs => v = .ref a ∧ ((d = none ∧ fs = []) ∨ ∃ dd xs, d = some dd ∧ H dd = some (.xd xs) ∧ ¬ Z dd ∧ Rqf Z H xs fs)
inductive Rps (b : Bg) (Z : Addr → Prop) (H : Hp) : List V → List D → Prop
  | nil : Rps b Z H [] []
  | cons {v : V} {d : D} {vs : List V} {ds : List D} : Rp b Z H v d → Rps b Z H vs ds → Rps b Z H (v :: vs) (d :: ds)
section
variable {b : Bg} {Z Z' : Addr → Prop} {H H' : Hp}
theorem Rp.mono (hz : ∀ a, Z' a → Z a ∨ H a = none) (hs : ∀ a o, H a = some o → ¬ Z a → H' a = some o) {v : V} {d : D} (r : Rp b Z H v d) : Rp b Z' H' v d := by
  cases d with
  | py p => exact Rq.mono hz hs r
  | abs A =>
    obtain ⟨a, e, nz, q⟩ := r
    obtain ⟨o, h⟩ := A.at_ q
    exact ⟨a, e, fun z => (hz _ z).elim nz (fun q => by rw [h] at q; cases q), A.mono hz hs (fun o h => hs _ _ h nz) q⟩
  | obj a n fs =>
    obtain ⟨dx, xs, e, h, nz, q⟩ := r
    exact ⟨dx, xs, e, hs _ _ h nz, fun z => (hz _ z).elim nz (fun q => by rw [h] at q; cases q), q.mono hz hs⟩
  | tps n L => exact RpT.mono hz hs r
  | rob a n fs =>
    obtain ⟨dx, xs, e, h, nz, q⟩ := r
    exact ⟨dx, xs, e, hs _ _ h nz, fun z => (hz _ z).elim nz (fun q => by rw [h] at q; cases q), q.mono hz hs⟩
  | cls n => exact r
  | clm C => exact C.mono hz hs r
  | raw u => exact r
  | err a d n fs =>
    obtain ⟨e, r⟩ := r
    refine ⟨e, r.imp id ?_⟩
    rintro ⟨dd, xs, e1, h, nz, q⟩
    exact ⟨dd, xs, e1, hs _ _ h nz, fun z => (hz _ z).elim nz (fun q => by rw [h] at q; cases q), q.mono hz hs⟩
theorem Rps.mono (hz : ∀ a, Z' a → Z a ∨ H a = none) (hs : ∀ a o, H a = some o → ¬ Z a → H' a = some o) : ∀ {v : List V} {d : List D}, Rps b Z H v d → Rps b Z' H' v d
  | _, _, .nil => .nil
  | _, _, .cons r t => .cons (r.mono hz hs) (Rps.mono hz hs t)
theorem Rps.length : ∀ {v : List V} {d : List D}, Rps b Z H v d → v.length = d.length
  | _, _, .nil => rfl
  | _, _, .cons _ t => congrArg (· + 1) (Rps.length t)
theorem Rps.pys : ∀ {v : List V} {d : List PyData}, Rps b Z H v (d.map D.py) → Rqs Z H v d
  | _, [], .nil => .nil
  | _, x :: d, .cons r t => .cons r (Rps.pys t)
theorem Rqs.to : ∀ {v : List V} {d : List PyData}, Rqs Z H v d → Rps b Z H v (d.map D.py)
  | _, _, .nil => .nil
  | _, _, .cons r t => .cons r (Rqs.to t)
end
/-- an owned object: it lies in Z itself, its items do not -/
def Ow (b : Bg) (Z : Addr → Prop) (H : Hp) (a : Addr) : D → Prop
  | .py (.list ds) => ∃ xs, H a = some (.lst xs) ∧ Rqs Z H xs ds
  | .py (.dict ds) => ∃ kvs, H a = some (.dK kvs) ∧ Rqk Z H kvs ds
  | .obj c n fs => a = c ∧ ∃ dx xs, H a = some (.ins (b.cls n) dx xs) ∧ Rqf Z H xs fs
  | .rob c n fs => a = c ∧ ∃ dx xs, H a = some (.ins (b.cls n) dx xs) ∧ RFs b.cls Z H xs fs
  | .abs A => A.R Z H a
  | _ => False
section
variable {b : Bg} {Z Z' : Addr → Prop} {H H' : Hp} {a : Addr} {d : D}
theorem Ow.noext (h : Ow b Z H a d) (o : HO) (ho : still o) : H a ≠ some o := fun z => by
  cases d with
  | py p =>
    cases p with
    | list ds => obtain ⟨xs, e, _⟩ := h; rw [e] at z; cases z; exact ho
    | dict ds => obtain ⟨xs, e, _⟩ := h; rw [e] at z; cases z; exact ho
    | _ => exact False.elim h
  | obj c n fs => obtain ⟨_, _, _, e, _⟩ := h; rw [e] at z; cases z; exact ho
  | rob c n fs => obtain ⟨_, _, _, e, _⟩ := h; rw [e] at z; cases z; exact ho
  | abs A => exact A.noext h o ho z
  | _ => exact False.elim h
theorem Ow.at (h : Ow b Z H a d) : ∃ o, H a = some o := by
  cases d with
  | py p =>
    cases p with
    | list ds => obtain ⟨xs, e, _⟩ := h; exact ⟨_, e⟩
    | dict ds => obtain ⟨xs, e, _⟩ := h; exact ⟨_, e⟩
    | _ => exact False.elim h
  | obj c n fs => obtain ⟨_, dx, xs, e, _⟩ := h; exact ⟨_, e⟩
  | rob c n fs => obtain ⟨_, dx, xs, e, _⟩ := h; exact ⟨_, e⟩
  | tps n L => exact False.elim h
  | cls n => exact False.elim h
  | clm C => exact False.elim h
  | abs A => exact A.at_ h
  | raw u => exact False.elim h
  | err _ _ _ _ => exact False.elim h
theorem Ow.mono (hz : ∀ a, Z' a → Z a ∨ H a = none) (hs : ∀ a o, H a = some o → ¬ Z a → H' a = some o) (ha : ∀ o, H a = some o → H' a = some o) (h : Ow b Z H a d) : Ow b Z' H' a d := by
  cases d with
  | py p =>
    cases p with
    | list ds => obtain ⟨xs, e, r⟩ := h; exact ⟨xs, ha _ e, r.mono hz hs⟩
    | dict ds => obtain ⟨xs, e, r⟩ := h; exact ⟨xs, ha _ e, r.mono hz hs⟩
    | _ => exact False.elim h
  | obj c n fs => obtain ⟨ec, dx, xs, e, r⟩ := h; exact ⟨ec, dx, xs, ha _ e, r.mono hz hs⟩
  | rob c n fs => obtain ⟨ec, dx, xs, e, r⟩ := h; exact ⟨ec, dx, xs, ha _ e, r.mono hz hs⟩
  | tps n L => exact False.elim h
  | cls n => exact False.elim h
  | clm C => exact False.elim h
  | abs A => exact A.mono hz hs ha h
  | raw u => exact False.elim h
  | err _ _ _ _ => exact False.elim h
/-- given away -/
theorem Ow.rp (hz : ∀ a, Z' a → Z a) (na : ¬ Z' a) (h : Ow b Z H a d) : Rp b Z' H (.ref a) d := by
  have hm : ∀ a, Z' a → Z a ∨ H a = none := fun a z => .inl (hz a z)
  cases d with
  | py p =>
    cases p with
    | list ds => obtain ⟨xs, e, r⟩ := h; exact Rq.lst e na (r.mono hm fun _ _ e _ => e)
    | dict ds => obtain ⟨xs, e, r⟩ := h; exact Rq.dct e na (r.mono hm fun _ _ e _ => e)
    | _ => exact False.elim h
  | obj c n fs => obtain ⟨ec, dx, xs, e, r⟩ := h; subst ec; exact ⟨dx, xs, rfl, e, na, r.mono hm fun _ _ e _ => e⟩
  | rob c n fs => obtain ⟨ec, dx, xs, e, r⟩ := h; subst ec; exact ⟨dx, xs, rfl, e, na, r.mono hm fun _ _ e _ => e⟩
  | tps n L => exact False.elim h
  | cls n => exact False.elim h
  | clm C => exact False.elim h
  | abs A => exact ⟨a, rfl, na, A.mono hm (fun _ _ e _ => e) (fun _ e => e) h⟩
  | raw u => exact False.elim h
  | err _ _ _ _ => exact False.elim h
end
end VL
set_option Elab.async false
set_option linter.all false
set_option maxRecDepth 100000
set_option maxHeartbeats 4000000
namespace VL
open PySem PySem.Spec PyProof.Rows L2
/-- a name's slot: nothing known, a shared value, an object that nobody else holds -/
inductive Slot where
  | un | shr (d : D) | own (d : D)
abbrev VEnv := List Slot
/-- all that stood and may not be changed by others stands -/
def Ex (b : Bg) (H H' : Hp) : Prop := ∀ a o, H a = some o → ¬ b.B a → H' a = some o
section
variable {b : Bg} {H H1 H2 : Hp}
theorem Ex.refl : Ex b H H := fun _ _ e _ => e
theorem Ex.trans (x : Ex b H H1) (y : Ex b H1 H2) : Ex b H H2 := fun a o e n => y a o (x a o e n) n
theorem Ex.new {a : Addr} {o : HO} (h : H a = none) : Ex b H (upd H a o) := fun c u e _ => by
  rw [upd_ne (ne_of_none e h)]
  exact e
theorem Bg.new {a : Addr} {o : HO} (g : b.G H) (h : H a = none) : b.G (upd H a o) :=
  b.loc H _ (fun c hc => upd_ne fun e => b.dom H c g hc (by rw [e]; exact h)) (fun c o _ e => by rw [upd_ne (ne_of_none e h)]; exact e) g
end
/-- the names' values and what they own. Zo: what the callers own, and B; Z: all that is owned now -/
structure VOk (b : Bg) (Zo Z : Addr → Prop) (σ : L2.St) (H : Hp) (ρ : VEnv) : Prop where
  g : b.G H
  zb : ∀ a, b.B a → Zo a
  zo : ∀ a, Zo a → Z a
  dom : ∀ a, Z a → H a ≠ none
  zi : ∀ a, Z a → Zo a ∨ ∃ (i : Nat) (d : D), ρ[i]? = some (.own d) ∧ σ[i]? = some (some (.ref a))
  own : ∀ (i : Nat) (d : D), ρ[i]? = some (.own d) → ∃ a, σ[i]? = some (some (.ref a)) ∧ Z a ∧ ¬ Zo a ∧ Ow b Z H a d
  inj : ∀ (i j : Nat) (d e : D) (a : Addr), ρ[i]? = some (.own d) → ρ[j]? = some (.own e) → σ[i]? = some (some (.ref a)) → σ[j]? = some (some (.ref a)) → i = j
  shr : ∀ (i : Nat) (d : D), ρ[i]? = some (.shr d) → ∃ v, σ[i]? = some (some v) ∧ Rp b Z H v d
  len : ρ.length = σ.length
section
variable {b : Bg} {Zo Z : Addr → Prop} {σ : L2.St} {H H' : Hp} {ρ : VEnv}
theorem VOk.nb (v : VOk b Zo Z σ H ρ) {a : Addr} (h : ¬ Z a) : ¬ b.B a := fun z => h (v.zo _ (v.zb _ z))
theorem VOk.fresh (v : VOk b Zo Z σ H ρ) {a : Addr} (h : H a = none) : ¬ Z a := fun z => v.dom a z h
theorem VOk.keep (v : VOk b Zo Z σ H ρ) (x : Ex b H H') : ∀ a o, H a = some o → ¬ Z a → H' a = some o := fun a o e n => x a o e (v.nb n)
theorem VOk.rp (v : VOk b Zo Z σ H ρ) (x : Ex b H H') {u : V} {d : D} (r : Rp b Z H u d) : Rp b Z H' u d := r.mono (fun a z => .inl z) (v.keep x)
theorem VOk.rq (v : VOk b Zo Z σ H ρ) (x : Ex b H H') {u : V} {d : PyData} (r : Rq Z H u d) : Rq Z H' u d := r.mono (fun a z => .inl z) (v.keep x)
theorem VOk.rqs (v : VOk b Zo Z σ H ρ) (x : Ex b H H') {u : List V} {d : List PyData} (r : Rqs Z H u d) : Rqs Z H' u d := r.mono (fun a z => .inl z) (v.keep x)
/-- behind an expression -/
theorem VOk.ex (v : VOk b Zo Z σ H ρ) (x : Ex b H H') (g : b.G H') : VOk b Zo Z σ H' ρ where
  g := g
  zb := v.zb
  zo := v.zo
  dom := fun a z => by
    by_cases hb : b.B a
    · exact b.dom H' a g hb
    · cases e : H a with
      | none => exact absurd e (v.dom a z)
      | some o => rw [x a o e hb]; simp
  zi := v.zi
  own := fun i d e => by
    obtain ⟨a, h1, h2, h3, h4⟩ := v.own i d e
    exact ⟨a, h1, h2, h3, h4.mono (fun _ z => .inl z) (v.keep x) fun o q => x a o q fun z => h3 (v.zb a z)⟩
  inj := v.inj
  shr := fun i d e => by
    obtain ⟨u, h1, h2⟩ := v.shr i d e
    exact ⟨u, h1, v.rp x h2⟩
  len := v.len
end
/-! ### readings -/
abbrev VT := VEnv → (D → Prop) → (Er → Prop) → Prop
abbrev VB := VEnv → (Bool → Prop) → (Er → Prop) → Prop
abbrev VA := VEnv → (List D → Prop) → (Er → Prop) → Prop
/-- an error as it lies: its class, its own dict -/
def ErRp (b : Bg) (Z : Addr → Prop) (H : Hp) (c : Value) (d : Option Addr) (er : Er) : Prop :=
  c = .ref (b.cls er.n) ∧ ((d = none ∧ er.fs = []) ∨ ∃ a xs, d = some a ∧ H a = some (.xd xs) ∧ ¬ Z a ∧ Rqf Z H xs er.fs)
/-- a borrowed value: it may be an owned object itself -/
def Rb (b : Bg) (Z : Addr → Prop) (H : Hp) (v : V) (d : D) : Prop := Rp b Z H v d ∨ ∃ a, v = .ref a ∧ ¬ b.B a ∧ Z a ∧ Ow b Z H a d
/-- a new object that nobody holds -/
def Rn (b : Bg) (Z : Addr → Prop) (H0 H : Hp) (v : V) (d : D) : Prop := ∃ a, v = .ref a ∧ H0 a = none ∧ Ow b (fun c => Z c ∨ c = a) H a d
/-- how a reading over values is one over the heap -/
def LE (b : Bg) (W : WX) (R : (Addr → Prop) → Hp → Hp → V → D → Prop) (t : VT) : TE := fun σ H Q => ∃ Zo Z ρ Qd Ed, VOk b Zo Z σ H ρ ∧ t ρ Qd Ed ∧
  (∀ v H' d, Ex b H H' → b.G H' → R Z H H' v d → Qd d → Q v H') ∧ ∀ c x H' er, Ex b H H' → b.G H' → ErRp b Z H' c x er → Ed er → W c x σ H'
def LB (b : Bg) (W : WX) (t : VB) : TT := fun σ H Q => ∃ Zo Z ρ Qd Ed, VOk b Zo Z σ H ρ ∧ t ρ Qd Ed ∧
  (∀ k H', Ex b H H' → b.G H' → Qd k → Q k H') ∧ ∀ c x H' er, Ex b H H' → b.G H' → ErRp b Z H' c x er → Ed er → W c x σ H'
def LA (b : Bg) (W : WX) (t : VA) : TA := fun σ H Q => ∃ Zo Z ρ Qd Ed, VOk b Zo Z σ H ρ ∧ t ρ Qd Ed ∧
  (∀ v H' d, Ex b H H' → b.G H' → Rps b Z H' v d → Qd d → Q v H') ∧ ∀ c x H' er, Ex b H H' → b.G H' → ErRp b Z H' c x er → Ed er → W c x σ H'
/-- an expression: its value; borrowed; new -/
def VE (X : Cx) (b : Bg) (W : WX) (e : Expr) (t : VT) : Prop := PE X e (LE b W (fun Z _ H v d => Rp b Z H v d) t)
def VX (X : Cx) (b : Bg) (W : WX) (e : Expr) (t : VT) : Prop := PE X e (LE b W (fun Z _ H v d => Rb b Z H v d) t)
def VN (X : Cx) (b : Bg) (W : WX) (e : Expr) (t : VT) : Prop := PE X e (LE b W (fun Z H0 H v d => Rn b Z H0 H v d) t)
def VTe (X : Cx) (b : Bg) (W : WX) (e : Expr) (t : VB) : Prop := PT X e (LB b W t)
def VAs (X : Cx) (b : Bg) (W : WX) (es : List Expr) (t : VA) : Prop := PA X es (LA b W t)
theorem pe_mono {X : Cx} {e : Expr} {t t' : TE} (h : PE X e t) (m : ∀ σ H Q, t' σ H Q → t σ H Q) : PE X e t' :=
  ⟨fun pins s σ H Q I q => h.run pins s σ H Q I (m σ H Q q)⟩
theorem pt_mono {X : Cx} {e : Expr} {t t' : TT} (h : PT X e t) (m : ∀ σ H Q, t' σ H Q → t σ H Q) : PT X e t' :=
  ⟨fun pins s σ H Q I q => h.run pins s σ H Q I (m σ H Q q)⟩
theorem pa_mono {X : Cx} {e : List Expr} {t t' : TA} (h : PA X e t) (m : ∀ σ H Q, t' σ H Q → t σ H Q) : PA X e t' :=
  ⟨fun pos pins s σ H Q I q => h.run pos pins s σ H Q I (m σ H Q q)⟩
theorem ps_mono {X : Cx} {e : Stmt} {t t' : TS} (h : PS X e t) (m : ∀ D σ H, t' D σ H → t D σ H) : PS X e t' :=
  ⟨fun pins s σ H D I q => h.run pins s σ H D I (m D σ H q)⟩
theorem pss_mono {X : Cx} {e : List Stmt} {t t' : TS} (h : PSs X e t) (m : ∀ D σ H, t' D σ H → t D σ H) : PSs X e t' :=
  ⟨fun pins s σ H D I q => h.run pins s σ H D I (m D σ H q)⟩
section
variable {X : Cx} {b : Bg} {W : WX} {e e1 e2 : Expr} {es : List Expr} {t t1 t2 : VT} {pos : Pos}
theorem VE.toX (h : VE X b W e t) : VX X b W e t := pe_mono h fun σ H Q ⟨Zo, Z, ρ, Qd, Ed, v, q, l, m⟩ => ⟨Zo, Z, ρ, Qd, Ed, v, q, fun u H' d x g r => l u H' d x g (.inl r), m⟩
theorem VN.toE (h : VN X b W e t) : VE X b W e t := pe_mono h fun σ H Q ⟨Zo, Z, ρ, Qd, Ed, v, q, l, m⟩ => ⟨Zo, Z, ρ, Qd, Ed, v, q, fun u H' d x g ⟨a, e, n, o⟩ => by
  subst e
  exact l _ H' d x g (o.rp (fun _ z => .inl z) (v.fresh n)), m⟩
theorem VN.toX (h : VN X b W e t) : VX X b W e t := VE.toX (VN.toE h)
/-! ### names, constants -/
@[simp] def vVar (i : Nat) : VT := fun ρ Q _ => ∃ d, ρ[i]? = some (.shr d) ∧ Q d
@[simp] def vBor (i : Nat) : VT := fun ρ Q _ => ∃ d, (ρ[i]? = some (.shr d) ∨ ρ[i]? = some (.own d)) ∧ Q d
@[simp] def vC (d : D) : VT := fun _ Q _ => Q d
theorem ve_var {i : Nat} (h : PE X e (tVar i)) : VE X b W e (vVar i) := pe_mono h fun σ H Q ⟨Zo, Z, ρ, Qd, Ed, v, ⟨d, e, q⟩, l, _⟩ => by
  obtain ⟨u, h1, h2⟩ := v.shr i d e
  exact ⟨u, h1, l u H d Ex.refl v.g h2 q⟩
theorem vx_var {i : Nat} (h : PE X e (tVar i)) : VX X b W e (vBor i) := pe_mono h fun σ H Q ⟨Zo, Z, ρ, Qd, Ed, v, ⟨d, e, q⟩, l, _⟩ => by
  rcases e with e | e
  · obtain ⟨u, h1, h2⟩ := v.shr i d e
    exact ⟨u, h1, l u H d Ex.refl v.g (.inl h2) q⟩
  · obtain ⟨a, h1, h2, h3, h4⟩ := v.own i d e
    exact ⟨.ref a, h1, l _ H d Ex.refl v.g (.inr ⟨a, rfl, fun z => h3 (v.zb a z), h2, h4⟩) q⟩
theorem ve_const {v : V} {p : PyData} (h : PE X e (tC v)) (r : ∀ (Z : Addr → Prop) (H : Hp), Rq Z H v p) : VE X b W e (vC (.py p)) :=
  pe_mono h fun σ H Q ⟨Zo, Z, ρ, Qd, Ed, v, q, l, _⟩ => l _ H (.py p) Ex.refl v.g (r Z H) q
theorem ve_int {i : Int} {j} : VE X b W (.Constant (.int i) j pos) (vC (.py (.int i))) := ve_const pe_int fun _ _ => .int i
theorem ve_bl {k : Bool} {j} : VE X b W (.Constant (.bool k) j pos) (vC (.py (.bool k))) := ve_const pe_bl fun _ _ => .bl k
theorem ve_non {j} : VE X b W (.Constant .none j pos) (vC (.py .none)) := ve_const pe_non fun _ _ => .non
theorem ve_str {x : Str} {j} : VE X b W (.Constant (.str x) j pos) (vC (.py (.str x))) := ve_const pe_str fun _ _ => .str x
theorem ve_raw {v : V} (h : PE X e (tC v)) : VE X b W e (vC (.raw v)) :=
  pe_mono h fun σ H Q ⟨Zo, Z, ρ, Qd, Ed, u, q, l, _⟩ => l v H (.raw v) Ex.refl u.g rfl q
/-! ### argument lists, displays -/
@[simp] def vNil : VA := fun _ Q _ => Q []
@[simp] def vCons (t : VT) (u : VA) : VA := fun ρ Q E => t ρ (fun d => u ρ (fun ds => Q (d :: ds)) E) E
theorem va_nil : VAs X b W [] vNil := pa_mono pa_nil fun σ H Q ⟨Zo, Z, ρ, Qd, Ed, v, q, l, _⟩ => l [] H [] Ex.refl v.g .nil q
theorem va_cons {u : VA} (h : VE X b W e t) (k : VAs X b W es u) (hs : starEach (e :: es) X.env = (false, eval e X.env) :: starEach es X.env := by rfl) : VAs X b W (e :: es) (vCons t u) :=
  pa_mono (pa_cons h k hs) fun σ H Q ⟨Zo, Z, ρ, Qd, Ed, v, q, l, m⟩ => ⟨Zo, Z, ρ, _, Ed, v, q, fun x H1 d x1 g1 r1 q1 =>
    ⟨Zo, Z, ρ, _, Ed, v.ex x1 g1, q1, fun xs H2 ds x2 g2 r2 q2 => l (x :: xs) H2 (d :: ds) (x1.trans x2) g2 (.cons ((v.ex x1 g1).rp x2 r1) r2) q2, fun c y H2 er x2 g2 r2 q2 => m c y H2 er (x1.trans x2) g2 r2 q2⟩, m⟩
@[simp] def pys : List D → Option (List PyData)
  | [] => some []
  | .py p :: ds => (pys ds).map (p :: ·)
  | _ :: _ => none
theorem pys_of : ∀ {ds : List D} {ps : List PyData}, pys ds = some ps → ds = ps.map D.py
  | [], ps, h => by cases h; rfl
  | .py p :: ds, ps, h => by
    cases e : pys ds with
    | none => rw [pys, e] at h; cases h
    | some qs => rw [pys, e] at h; cases h; rw [List.map_cons, ← pys_of e]
  | .obj _ _ _ :: _, _, h => by cases h
  | .abs _ :: _, _, h => by cases h
  | .tps _ _ :: _, _, h => by cases h
  | .cls _ :: _, _, h => by cases h
  | .clm _ :: _, _, h => by cases h
  | .rob _ _ _ :: _, _, h => by cases h
  | .raw _ :: _, _, h => by cases h
  | .err _ _ _ _ :: _, _, h => by cases h
theorem Rqs.up' {Z : Addr → Prop} {H : Hp} {a : Addr} {o : HO} {v : List V} {ds : List PyData} (r : Rqs Z H v ds) (h : H a = none) : Rqs (fun c => Z c ∨ c = a) (upd H a o) v ds :=
  r.mono (fun c z => z.imp id fun e => by rw [e]; exact h) fun c u e _ => by
    rw [upd_ne (ne_of_none e h)]
    exact e
/-- a tuple, a list of written items -/
@[simp] def vTup (u : VA) : VT := fun ρ Q E => u ρ (fun ds => ∃ ps, pys ds = some ps ∧ ps.length ≤ sizeLine ∧ Q (.py (.tuple ps))) E
@[simp] def vLst (u : VA) : VT := fun ρ Q E => u ρ (fun ds => ∃ ps, pys ds = some ps ∧ ps.length ≤ sizeLine ∧ Q (.py (.list ps))) E
theorem Rps.pyL {Z : Addr → Prop} {H : Hp} {v : List V} {ds : List D} {ps : List PyData} (r : Rps b Z H v ds) (e : VL.pys ds = some ps) : Rqs Z H v ps := by
  rw [pys_of e] at r
  exact r.pys
theorem up {Z : Addr → Prop} {H : Hp} {a : Addr} {o : HO} (h : H a = none) : ∀ c u, H c = some u → ¬ Z c → upd H a o c = some u := fun c u e _ => by
  rw [upd_ne (ne_of_none e h)]
  exact e
theorem Rqs.up {Z : Addr → Prop} {H : Hp} {a : Addr} {o : HO} {v : List V} {ds : List PyData} (r : Rqs Z H v ds) (h : H a = none) : Rqs Z (upd H a o) v ds := r.mono (fun _ z => .inl z) (VL.up h)
theorem ve_tup {u : VA} {x1} (k : VAs X b W es u) : VE X b W (.Tuple es x1 pos) (vTup u) :=
  pe_mono (pe_tupF k) fun σ H Q ⟨Zo, Z, ρ, Qd, Ed, v, q, l, m⟩ => ⟨Zo, Z, ρ, _, Ed, v, q, fun xs H1 ds x1 g1 r1 ⟨ps, e, hl, q1⟩ => by
    have r2 := r1.pyL e
    refine ⟨by rw [r2.length]; exact hl, fun p o hp ho => l _ _ _ (x1.trans (Ex.new hp)) (Bg.new g1 hp) ?_ q1⟩
    exact Rq.tup upd_same ho ((v.ex x1 g1).fresh hp) (r2.up hp), m⟩
theorem vn_lst {u : VA} (k : VAs X b W es u) : VN X b W (.List es pos) (vLst u) :=
  pe_mono (pe_lst k) fun σ H Q ⟨Zo, Z, ρ, Qd, Ed, v, q, l, m⟩ => ⟨Zo, Z, ρ, _, Ed, v, q, fun xs H1 ds x1 g1 r1 ⟨ps, e, hl, q1⟩ => (by
    have r2 := r1.pyL e
    refine ⟨by rw [r2.length]; exact hl, fun p hp => l _ _ (.py (.list ps)) (x1.trans (Ex.new hp)) (Bg.new g1 hp) ⟨p, rfl, ?_, xs, upd_same, r2.up' hp⟩ q1⟩
    cases e : H p with
    | none => rfl
    | some o =>
      by_cases hb : b.B p
      · exact absurd hp (b.dom _ _ g1 hb)
      · rw [x1 p o e hb] at hp; cases hp), m⟩
end
end VL
set_option Elab.async false
set_option linter.all false
set_option maxRecDepth 100000
set_option maxHeartbeats 4000000
namespace VL
open PySem PySem.Spec PyProof.Rows L2
/-! ### what a borrowed value is -/
section
variable {b : Bg} {Z : Addr → Prop} {H : Hp} {v : V}
theorem Rb.list {ds : List PyData} (r : Rb b Z H v (.py (.list ds))) : ∃ a xs, v = .ref a ∧ H a = some (.lst xs) ∧ Rqs Z H xs ds := by
  rcases r with r | ⟨a, e, _, _, xs, h, q⟩
  · cases r with
    | lst e n q => exact ⟨_, _, rfl, e, q⟩
  · exact ⟨a, xs, e, h, q⟩
theorem Rb.dict {ds : List (PyData × PyData)} (r : Rb b Z H v (.py (.dict ds))) : ∃ a xs, v = .ref a ∧ H a = some (.dK xs) ∧ Rqk Z H xs ds := by
  rcases r with r | ⟨a, e, _, _, xs, h, q⟩
  · cases r with
    | dct e n q => exact ⟨_, _, rfl, e, q⟩
  · exact ⟨a, xs, e, h, q⟩
theorem Rb.tuple {ds : List PyData} (r : Rb b Z H v (.py (.tuple ds))) : ∃ a o xs, v = .ref a ∧ H a = some (HO.th o xs) ∧ o.dict = none ∧ ¬ Z a ∧ Rqs Z H xs ds := by
  rcases r with r | ⟨a, e, _, _, q⟩
  · cases r with
    | tup e d n q => exact ⟨_, _, _, rfl, e, d, n, q⟩
  · exact q.elim
theorem Rb.int {i : Int} (r : Rb b Z H v (.py (.int i))) : v = .int i := by
  rcases r with r | ⟨a, e, _, _, q⟩
  · cases r; rfl
  · exact q.elim
theorem Rb.str {i : Str} (r : Rb b Z H v (.py (.str i))) : v = .str i := by
  rcases r with r | ⟨a, e, _, _, q⟩
  · cases r; rfl
  · exact q.elim
theorem Rb.bool {i : Bool} (r : Rb b Z H v (.py (.bool i))) : v = .bl i := by
  rcases r with r | ⟨a, e, _, _, q⟩
  · cases r; rfl
  · exact q.elim
theorem Rb.none (r : Rb b Z H v (.py .none)) : v = .non := by
  rcases r with r | ⟨a, e, _, _, q⟩
  · cases r; rfl
  · exact q.elim
theorem Rb.obj {a : Addr} {n : Str} {fs : List (Str × PyData)} (r : Rb b Z H v (.obj a n fs)) : ∃ dx xs, v = .ref a ∧ H a = some (.ins (b.cls n) dx xs) ∧ Rqf Z H xs fs := by
  rcases r with ⟨dx, xs, e, h, _, q⟩ | ⟨a, e, _, _, rfl, dx, xs, h, q⟩
  · exact ⟨dx, xs, e, h, q⟩
  · exact ⟨dx, xs, e, h, q⟩
theorem Rb.ex {H' : Hp} (hk : ∀ a o, H a = some o → ¬ Z a → H' a = some o) (x : Ex b H H') {d : D} (r : Rb b Z H v d) : Rb b Z H' v d := by
  rcases r with r | ⟨a, e, nb, z, q⟩
  · exact .inl (r.mono (fun _ z => .inl z) hk)
  · exact .inr ⟨a, e, nb, z, q.mono (fun _ z => .inl z) hk fun o h => x a o h nb⟩
end
/-- the ground of a rule by values: G stands, B lies in Z, Z is there -/
structure Gd (b : Bg) (Z : Addr → Prop) (H : Hp) : Prop where
  g : b.G H
  zb : ∀ a, b.B a → Z a
  dom : ∀ a, Z a → H a ≠ none
theorem VOk.gd {b : Bg} {Zo Z : Addr → Prop} {σ : L2.St} {H : Hp} {ρ : VEnv} (v : VOk b Zo Z σ H ρ) : Gd b Z H := ⟨v.g, fun a z => v.zo a (v.zb a z), v.dom⟩
section
variable {b : Bg} {Z : Addr → Prop} {H : Hp}
theorem Gd.fresh (g : Gd b Z H) {a : Addr} (h : H a = none) : ¬ Z a := fun z => g.dom a z h
theorem Gd.new (g : Gd b Z H) {a : Addr} {o : HO} (h : H a = none) : b.G (upd H a o) := Bg.new g.g h
end
/-- a rule by the heap's values serves a reading g over values; R: what comes of it -/
def OpD (b : Bg) (R : (Addr → Prop) → Hp → Hp → V → D → Prop) (r : R2) (g : D → D → (D → Prop) → Prop) : Prop :=
  ∀ (Z : Addr → Prop) (H : Hp) (x y : V) (dx dy : D) (Q : VK) (Qd : D → Prop), Gd b Z H → Rb b Z H x dx → Rb b Z H y dy → g dx dy Qd →
    (∀ v H' d, Ex b H H' → b.G H' → R Z H H' v d → Qd d → Q v H') → r x y H Q
abbrev RE (b : Bg) : (Addr → Prop) → Hp → Hp → V → D → Prop := fun Z _ H v d => Rp b Z H v d
abbrev RN (b : Bg) : (Addr → Prop) → Hp → Hp → V → D → Prop := fun Z H0 H v d => Rn b Z H0 H v d
@[simp] def vBin (g : D → D → (D → Prop) → Prop) (ta tb : VT) : VT := fun ρ Q E => ta ρ (fun x => tb ρ (fun y => g x y Q) E) E
@[simp] def vUn (g : D → (D → Prop) → Prop) (ta : VT) : VT := fun ρ Q E => ta ρ (fun x => g x Q) E
theorem Rn.of {b : Bg} {Z : Addr → Prop} {H H1 H2 : Hp} {v : V} {d : D} (g : b.G H1) (x : Ex b H H1) (r : Rn b Z H1 H2 v d) : Rn b Z H H2 v d := by
  obtain ⟨a, e, h, o⟩ := r
  refine ⟨a, e, ?_, o⟩
  cases q : H a with
  | none => rfl
  | some u =>
    by_cases hb : b.B a
    · exact absurd h (b.dom _ _ g hb)
    · rw [x a u q hb] at h; cases h
section
variable {X : Cx} {b : Bg} {W : WX} {e e1 e2 e3 : Expr} {es : List Expr} {t t1 t2 t3 : VT} {pos : Pos} {r : R2} {g : D → D → (D → Prop) → Prop}
/-- the core of all rules of two values -/
theorem core2 {R : (Addr → Prop) → Hp → Hp → V → D → Prop} (hR : ∀ Z H H1 H2 v d, b.G H1 → Ex b H H1 → R Z H1 H2 v d → R Z H H2 v d) (hd : OpD b R r g) :
    ∀ σ H Q, LE b W R (vBin g t1 t2) σ H Q → tOp r (LE b W (fun Z _ H v d => Rb b Z H v d) t1) (LE b W (fun Z _ H v d => Rb b Z H v d) t2) σ H Q :=
  fun σ H Q ⟨Zo, Z, ρ, Qd, Ed, v, q, l, m⟩ => ⟨Zo, Z, ρ, _, Ed, v, q, fun x H1 d x1 g1 r1 q1 =>
    ⟨Zo, Z, ρ, _, Ed, v.ex x1 g1, q1, fun y H2 d2 x2 g2 r2 q2 =>
      hd Z H2 x y d d2 Q Qd ((v.ex x1 g1).ex x2 g2).gd (r1.ex ((v.ex x1 g1).keep x2) x2) r2 q2 fun u H3 d3 x3 g3 r3 q3 => l u H3 d3 ((x1.trans x2).trans x3) g3 (hR _ _ _ _ _ _ g2 (x1.trans x2) r3) q3,
      fun c z H2 er x2 g2 r2 q2 => m c z H2 er (x1.trans x2) g2 r2 q2⟩, m⟩
theorem hRE : ∀ (Z : Addr → Prop) (H H1 H2 : Hp) (v : V) (d : D), b.G H1 → Ex b H H1 → RE b Z H1 H2 v d → RE b Z H H2 v d := fun _ _ _ _ _ _ _ _ r => r
theorem hRN : ∀ (Z : Addr → Prop) (H H1 H2 : Hp) (v : V) (d : D), b.G H1 → Ex b H H1 → RN b Z H1 H2 v d → RN b Z H H2 v d := fun _ _ _ _ _ _ g x r => r.of g x
theorem ve_op {op : Operator} (ho : OpR X (binaryOp op) r) (hd : OpD b (RE b) r g) (h1 : VX X b W e1 t1) (h2 : VX X b W e2 t2) : VE X b W (.BinOp e1 op e2 pos) (vBin g t1 t2) :=
  pe_mono (pe_op ho h1 h2) (core2 hRE hd)
theorem vn_op {op : Operator} (ho : OpR X (binaryOp op) r) (hd : OpD b (RN b) r g) (h1 : VX X b W e1 t1) (h2 : VX X b W e2 t2) : VN X b W (.BinOp e1 op e2 pos) (vBin g t1 t2) :=
  pe_mono (pe_op ho h1 h2) (core2 hRN hd)
theorem ve_cmp {op : CmpOp} (ho : OpR X (compareOp op) r) (hd : OpD b (RE b) r g) (h1 : VX X b W e1 t1) (h2 : VX X b W e2 t2) (hm : behindInMarks op e2 = false) : VE X b W (.Compare e1 [op] [e2] pos) (vBin g t1 t2) :=
  pe_mono (pe_cmpR ho h1 h2 hm) (core2 hRE hd)
/-- a value that is a bool, as a test -/
@[simp] def vTst (t : VT) : VB := fun ρ Q E => t ρ (fun d => ∃ k, d = .py (.bool k) ∧ Q k) E
theorem core2t (hd : OpD b (RE b) r g) : ∀ σ H Q, LB b W (vTst (vBin g t1 t2)) σ H Q → tTest (tOp r (LE b W (fun Z _ H v d => Rb b Z H v d) t1) (LE b W (fun Z _ H v d => Rb b Z H v d) t2)) σ H Q :=
  fun σ H Q ⟨Zo, Z, ρ, Qd, Ed, v, q, l, m⟩ => core2 (t1 := t1) (t2 := t2) hRE hd σ H _ ⟨Zo, Z, ρ, _, Ed, v, q, fun x H1 d x1 g1 r1 ⟨k, e, q1⟩ => ⟨k, by
    subst e
    exact Rb.bool (b := b) (.inl r1), l k H1 x1 g1 q1⟩, m⟩
theorem vt_cmp {op : CmpOp} (ho : OpR X (compareOp op) r) (hd : OpD b (RE b) r g) (h1 : VX X b W e1 t1) (h2 : VX X b W e2 t2) (hm : behindInMarks op e2 = false) : VTe X b W (.Compare e1 [op] [e2] pos) (vTst (vBin g t1 t2)) :=
  pt_mono (pt_cmpR ho h1 h2 hm) (core2t hd)
/-- any expression whose value is a bool, as a test -/
theorem vt_val (h : VX X b W e t) (he : ∀ whole, isTrue e X.env whole = (do let v ← whole; standAt e.pos; holding [v] (truthy v)) := by intro _; rfl) : VTe X b W e (vTst t) :=
  pt_mono (pt_val h he) fun σ H Q ⟨Zo, Z, ρ, Qd, Ed, v, q, l, m⟩ => ⟨Zo, Z, ρ, _, Ed, v, q, fun x H1 d x1 g1 r1 ⟨k, e, q1⟩ => ⟨k, by
    subst e
    exact r1.bool, l k H1 x1 g1 q1⟩, m⟩
/-! ### arithmetic -/
@[simp] def gAdd : D → D → (D → Prop) → Prop
  | .py (.int i), .py (.int j), Q => Q (.py (.int (i + j)))
  | .py (.str x), .py (.str y), Q => x.length + y.length ≤ sizeLine ∧ Q (.py (.str (x ++ y)))
  | .py (.list x), .py (.list y), Q => x.length + y.length ≤ sizeLine ∧ Q (.py (.list (x ++ y)))
  | .py (.tuple x), .py (.tuple y), Q => x.length + y.length ≤ sizeLine ∧ Q (.py (.tuple (x ++ y)))
  | _, _, _ => False
@[simp] def gCat : D → D → (D → Prop) → Prop
  | .py (.list x), .py (.list y), Q => x.length + y.length ≤ sizeLine ∧ Q (.py (.list (x ++ y)))
  | _, _, _ => False
theorem rn_catL : OpD b (RN b) rCat gCat := by
  intro Z H x y dx dy Q Qd gd rx ry h k
  match dx, dy, h, rx, ry with
  | .py (.list xs), .py (.list ys), ⟨hl, h⟩, rx, ry =>
    obtain ⟨a, us, rfl, ha, qa⟩ := rx.list
    obtain ⟨c, ws, rfl, hc, qc⟩ := ry.list
    refine ⟨a, c, us, ws, rfl, rfl, ha, hc, by rw [qa.length, qc.length]; exact hl, fun p hp => k _ _ (.py (.list (xs ++ ys))) (Ex.new hp) (gd.new hp) ⟨p, rfl, hp, _, upd_same, (qa.append qc).up' hp⟩ h⟩
theorem OpD.toE {r : R2} {g : D → D → (D → Prop) → Prop} (h : OpD b (RN b) r g) : OpD b (RE b) r g := fun Z H x y dx dy Q Qd gd rx ry q k =>
  h Z H x y dx dy Q Qd gd rx ry q fun v H' d x1 g1 ⟨a, e, n, o⟩ q1 => k v H' d x1 g1 (by subst e; exact o.rp (fun _ z => .inl z) (gd.fresh n)) q1
theorem rd_add : OpD b (RE b) (fun x y H Q => rI0 (fun i j => .int (i + j)) x y H Q ∨ (fun x y H Q => (∃ i j, x = .str i ∧ y = .str j ∧ i.length + j.length ≤ sizeLine ∧ Q (.str (i ++ j)) H) ∨ (fun x y H Q => rCat x y H Q ∨ rCatF X.K x y H Q) x y H Q) x y H Q) gAdd := by
  intro Z H x y dx dy Q Qd gd rx ry h k
  match dx, dy, h, rx, ry with
  | .py (.int i), .py (.int j), h, rx, ry =>
    rw [rx.int, ry.int]
    exact .inl ⟨i, j, rfl, rfl, k _ H (.py (.int (i + j))) Ex.refl gd.g (.int _) h⟩
  | .py (.str i), .py (.str j), ⟨hl, h⟩, rx, ry =>
    rw [rx.str, ry.str]
    exact .inr (.inl ⟨i, j, rfl, rfl, hl, k _ H (.py (.str (i ++ j))) Ex.refl gd.g (.str _) h⟩)
  | .py (.list xs), .py (.list ys), h, rx, ry =>
    exact .inr (.inr (.inl (OpD.toE rn_catL Z H x y (.py (.list xs)) (.py (.list ys)) Q Qd gd rx ry h k)))
  | .py (.tuple xs), .py (.tuple ys), ⟨hl, h⟩, rx, ry =>
    obtain ⟨a, oa, us, rfl, ha, da, na, qa⟩ := rx.tuple
    obtain ⟨c, oc, ws, rfl, hc, dc, nc, qc⟩ := ry.tuple
    refine .inr (.inr (.inr ⟨a, c, us, ws, rfl, rfl, SqT.th ha, SqT.th hc, by rw [qa.length, qc.length]; exact hl, fun e => ?_, fun _ e => ?_, fun _ _ p o hp ho => ?_⟩))
    · subst e
      cases qa
      exact k _ H (.py (.tuple ys)) Ex.refl gd.g (.tup hc dc nc qc) h
    · subst e
      cases qc
      rw [List.append_nil] at h
      exact k _ H (.py (.tuple xs)) Ex.refl gd.g (.tup ha da na qa) h
    · exact k _ _ (.py (.tuple (xs ++ ys))) (Ex.new hp) (gd.new hp) (.tup upd_same ho (gd.fresh hp) ((qa.append qc).up hp)) h
theorem ve_add (h1 : VX X b W e1 t1) (h2 : VX X b W e2 t2) : VE X b W (.BinOp e1 .Add e2 pos) (vBin gAdd t1 t2) := ve_op (OpR.or op_add (OpR.or op_add_str (OpR.or op_cat op_catF))) rd_add h1 h2
/-- ints in, under C; a plain value out -/
@[simp] def gI (C : Int → Int → Prop) (f : Int → Int → PyData) : D → D → (D → Prop) → Prop
  | .py (.int i), .py (.int j), Q => C i j ∧ Q (.py (f i j))
  | _, _, _ => False
theorem rd_I {C : Int → Int → Prop} {f : Int → Int → V} {f' : Int → Int → PyData} (hf : ∀ (Z : Addr → Prop) (H : Hp) i j, Rq Z H (f i j) (f' i j)) : OpD b (RE b) (rI C f) (gI C f') := by
  intro Z H x y dx dy Q Qd gd rx ry h k
  match dx, dy, h, rx, ry with
  | .py (.int i), .py (.int j), ⟨hc, h⟩, rx, ry =>
    rw [rx.int, ry.int]
    exact ⟨i, j, rfl, rfl, hc, k _ H (.py (f' i j)) Ex.refl gd.g (hf Z H i j) h⟩
/-- .. without a condition -/
@[simp] def gI0 (f : Int → Int → PyData) : D → D → (D → Prop) → Prop
  | .py (.int i), .py (.int j), Q => Q (.py (f i j))
  | _, _, _ => False
theorem rd_I0 {f : Int → Int → V} {f' : Int → Int → PyData} (hf : ∀ (Z : Addr → Prop) (H : Hp) i j, Rq Z H (f i j) (f' i j)) : OpD b (RE b) (rI0 f) (gI0 f') := by
  intro Z H x y dx dy Q Qd gd rx ry h k
  match dx, dy, h, rx, ry with
  | .py (.int i), .py (.int j), h, rx, ry =>
    rw [rx.int, ry.int]
    exact ⟨i, j, rfl, rfl, k _ H (.py (f' i j)) Ex.refl gd.g (hf Z H i j) h⟩
abbrev gSub := gI0 fun i j => .int (i - j)
abbrev gMod := gI (fun _ j => 0 < j) fun i j => .int (i % j)
abbrev gPow := gI CPow fun i j => .int (i ^ j.toNat)
abbrev gLt := gI0 fun i j => .bool (decide (i < j))
abbrev gLe := gI0 fun i j => .bool (decide (i ≤ j))
abbrev gGt := gI0 fun i j => .bool (decide (j < i))
abbrev gGe := gI0 fun i j => .bool (decide (j ≤ i))
theorem ve_sub (h1 : VX X b W e1 t1) (h2 : VX X b W e2 t2) : VE X b W (.BinOp e1 .Sub e2 pos) (vBin gSub t1 t2) := ve_op op_sub (rd_I0 fun _ _ _ _ => .int _) h1 h2
theorem ve_mod (h1 : VX X b W e1 t1) (h2 : VX X b W e2 t2) : VE X b W (.BinOp e1 .Mod e2 pos) (vBin gMod t1 t2) := ve_op op_mod (rd_I fun _ _ _ _ => .int _) h1 h2
theorem ve_pow (h1 : VX X b W e1 t1) (h2 : VX X b W e2 t2) : VE X b W (.BinOp e1 .Pow e2 pos) (vBin gPow t1 t2) := ve_op op_pow (rd_I fun _ _ _ _ => .int _) h1 h2
theorem ve_gt (h1 : VX X b W e1 t1) (h2 : VX X b W e2 t2) : VE X b W (.Compare e1 [.Gt] [e2] pos) (vBin gGt t1 t2) := ve_cmp op_gt (rd_I0 fun _ _ _ _ => .bl _) h1 h2 (nobehind _ (by decide) (by decide))
theorem vt_lt (h1 : VX X b W e1 t1) (h2 : VX X b W e2 t2) : VTe X b W (.Compare e1 [.Lt] [e2] pos) (vTst (vBin gLt t1 t2)) := vt_cmp op_lt (rd_I0 fun _ _ _ _ => .bl _) h1 h2 (nobehind _ (by decide) (by decide))
theorem vt_gt (h1 : VX X b W e1 t1) (h2 : VX X b W e2 t2) : VTe X b W (.Compare e1 [.Gt] [e2] pos) (vTst (vBin gGt t1 t2)) := vt_cmp op_gt (rd_I0 fun _ _ _ _ => .bl _) h1 h2 (nobehind _ (by decide) (by decide))
theorem vt_ge (h1 : VX X b W e1 t1) (h2 : VX X b W e2 t2) : VTe X b W (.Compare e1 [.GtE] [e2] pos) (vTst (vBin gGe t1 t2)) := vt_cmp op_ge (rd_I0 fun _ _ _ _ => .bl _) h1 h2 (nobehind _ (by decide) (by decide))
end
end VL
set_option Elab.async false
set_option linter.all false
set_option maxRecDepth 100000
set_option maxHeartbeats 4000000
namespace VL
open PySem PySem.Spec PyProof.Rows L2
abbrev nz : Addr → Prop := fun _ => False
section
variable {X : Cx} {pins : List (Addr × Obj)} {σ : L2.St} {H : Hp} {s : Shared} {Z : Addr → Prop}
theorem keys_read {h : Heap} {P : Program} {w : World} : ∀ {es : List DictEntry} {kvs : List (Key × V)} {vs : List (Key × Value)}, KV kvs vs → Pairs (mixKind P w) es vs →
    ReadsAll h (es.map (·.key)) (kvs.map fun p => kD p.1) [] ∧ Vals (kvs.map (·.2)) (es.map (·.val))
  | _, _, _, .nil, .nil => ⟨.nil, .nil⟩
  | _, _, _, .cons (a := p) (b := q) r t, .cons (e := e) hk hv hp => by
    obtain ⟨i1, i2⟩ := keys_read (h := h) t hp
    obtain ⟨p1, p2⟩ := p
    obtain ⟨q1, q2⟩ := q
    obtain ⟨e1, e2⟩ := r
    have e1' : p1 = q1 := e1
    subst e1'
    refine ⟨?_, .cons (show L2.RelV p2 e.val by rw [hv]; exact e2) i2⟩
    have hk' : keyIs p1 e.key = true := hk
    rcases keyIs_shape hk' with ⟨i, u, a1, a2⟩ | ⟨x, u, a1, a2⟩
    · subst a1
      rw [List.map_cons, List.map_cons, a2]
      exact ReadsAll.cons (as := []) (Reads.int i u) i1
    · subst a1
      rw [List.map_cons, List.map_cons, a2]
      exact ReadsAll.cons (as := []) (Reads.str x u) i1
mutual
theorem Rq.reads (I : Inv X pins σ H s) : ∀ {v : V} {d : PyData}, Rq Z H v d → ∀ u, RelV v u → ∃ as, Reads s.heap u d as ∧ ∀ a ∈ as, H a ≠ none
  | _, _, .non, _, r => by cases r; exact ⟨_, Reads.none, fun _ h => nomatch h⟩
  | _, _, .bl k, _, r => by cases r; exact ⟨_, Reads.bool k, fun _ h => nomatch h⟩
  | _, _, .int i, _, r => by obtain ⟨t, rfl⟩ := r; exact ⟨_, Reads.int i t, fun _ h => nomatch h⟩
  | _, _, .str x, _, r => by obtain ⟨t, rfl⟩ := r; exact ⟨_, Reads.str x t, fun _ h => nomatch h⟩
  | _, _, .lst (a := a) e n q, _, r => by
    cases r
    obtain ⟨its, rv, ⟨o, m, ho, hc, _, hd⟩, _⟩ := I.list (SqL.of e)
    obtain ⟨as, h1, h2⟩ := Rqs.reads I q _ rv
    refine ⟨_, Reads.list ho hc hd h1, fun b hb => ?_⟩
    rcases List.mem_cons.mp hb with rfl | hb
    · rw [e]; simp
    · exact h2 b hb
  | _, _, .tup (a := a) e _ n q, _, r => by
    cases r
    obtain ⟨its, rv, ⟨o, ho, hc, m, hd⟩, _⟩ := I.tuple (SqT.th e)
    obtain ⟨as, h1, h2⟩ := Rqs.reads I q _ rv
    exact ⟨_, Reads.tuple ho hc hd h1, h2⟩
  | _, _, .dct (a := a) (kvs := kvs) (ds := ds) e n q, _, r => by
    cases r
    obtain ⟨_, _, vs, kv, o, es, ep, ho, he, hd, _, hp, _⟩ := dk_of I.hok e
    obtain ⟨k1, k2⟩ := keys_read (h := s.heap) kv hp
    obtain ⟨bs, h1, h2, h3⟩ := Rqk.reads I q _ k2
    rw [h3] at k1
    refine ⟨_, Reads.dict ho he.1 hd k1 h1, fun b hb => ?_⟩
    rcases List.mem_append.mp hb with hb | hb
    · rw [List.mem_singleton.mp hb, e]; simp
    · exact h2 b hb
theorem Rqs.reads (I : Inv X pins σ H s) : ∀ {v : List V} {d : List PyData}, Rqs Z H v d → ∀ u, Vals v u → ∃ as, ReadsAll s.heap u d as ∧ ∀ a ∈ as, H a ≠ none
  | _, _, .nil, _, r => by cases r; exact ⟨_, ReadsAll.nil, fun _ h => nomatch h⟩
  | _, _, .cons q t, _, r => by
    cases r with
    | cons r rr =>
      obtain ⟨as, h1, h2⟩ := Rq.reads I q _ r
      obtain ⟨bs, h3, h4⟩ := Rqs.reads I t _ rr
      exact ⟨_, ReadsAll.cons h1 h3, fun a ha => (List.mem_append.mp ha).elim (h2 a) (h4 a)⟩
theorem Rqk.reads (I : Inv X pins σ H s) : ∀ {v : List (Key × V)} {d : List (PyData × PyData)}, Rqk Z H v d → ∀ u, Vals (v.map (·.2)) u → ∃ as, ReadsAll s.heap u (d.map (·.2)) as ∧ (∀ a ∈ as, H a ≠ none) ∧ v.map (fun p => kD p.1) = d.map (·.1)
  | _, _, .nil, _, r => by cases r; exact ⟨_, ReadsAll.nil, fun _ h => (nomatch h), rfl⟩
  | _, _, .cons q t, _, r => by
    cases r with
    | cons r rr =>
      obtain ⟨as, h1, h2⟩ := Rq.reads I q _ r
      obtain ⟨bs, h3, h4, h5⟩ := Rqk.reads I t _ rr
      exact ⟨_, ReadsAll.cons h1 h3, fun a ha => (List.mem_append.mp ha).elim (h2 a) (h4 a), by rw [List.map_cons, List.map_cons, h5]⟩
end
end
/-- a borrowed plain value, as data -/
theorem Rb.q {b : Bg} {Z : Addr → Prop} {H : Hp} {v : V} {p : PyData} (r : Rb b Z H v (.py p)) : Rq nz H v p := by
  rcases r with r | ⟨a, e, _, _, q⟩
  · exact Rq.mono (fun _ z => z.elim) (fun _ _ e _ => e) r
  · subst e
    exact Ow.rp (b := b) (d := .py p) (Z' := nz) (fun _ z => z.elim) (fun z => z) q
/-! ### ==, in -/
section
variable {X : Cx}
def rEqP : R2 := fun x y H Q => ∃ p q, Rq nz H x p ∧ Rq nz H y q ∧ p.plain = true ∧ q.plain = true ∧ (p.depth ≤ 60 ∨ q.depth ≤ 60) ∧ Q (.bl (p.eqv q)) H
def rNeP : R2 := fun x y H Q => ∃ p q, Rq nz H x p ∧ Rq nz H y q ∧ p.plain = true ∧ q.plain = true ∧ (p.depth ≤ 60 ∨ q.depth ≤ 60) ∧ Q (.bl (!p.eqv q)) H
theorem op_eqP (hu : X.A.units + 64 < cLine) : OpR X (compareOp .Eq) rEqP := by
  intro pins s σ H x y v u Q I rx ry ⟨p, q, hp, hq, p1, q1, hd, h⟩
  obtain ⟨as, r1, _⟩ := hp.reads I _ rx
  obtain ⟨bs, r2, _⟩ := hq.reads I _ ry
  exact SeqAt.eq_plain r1 r2 p1 q1 (by omega) ⟨.bl _, H, I, rfl, h⟩
theorem op_neP (hu : X.A.units + 64 < cLine) : OpR X (compareOp .NotEq) rNeP := by
  intro pins s σ H x y v u Q I rx ry ⟨p, q, hp, hq, p1, q1, hd, h⟩
  obtain ⟨as, r1, _⟩ := hp.reads I _ rx
  obtain ⟨bs, r2, _⟩ := hq.reads I _ ry
  exact SeqAt.ne_plain r1 r2 p1 q1 (by omega) ⟨.bl _, H, I, rfl, h⟩
def rInP (neg : Bool) : R2 := fun x y H Q => ∃ p qs, Rq nz H x p ∧ (Rq nz H y (.list qs) ∨ Rq nz H y (.tuple qs)) ∧ p.plain = true ∧ PyData.plainAll qs = true ∧ (p.depth ≤ 60 ∨ PyData.depthAll qs ≤ 60) ∧ Q (.bl (neg ^^ qs.any fun y => PyData.eqv y p)) H
theorem op_inP (hu : X.A.units + 64 < cLine) : OpR X (compareOp .In) (rInP false) := by
  intro pins s σ H x y v u Q I rx ry ⟨p, q, hp, hq, p1, q1, hd, h⟩
  obtain ⟨as, r1, _⟩ := hp.reads I _ rx
  rw [Bool.false_xor] at h
  rcases hq with hq | hq
  · obtain ⟨bs, r2, _⟩ := hq.reads I _ ry
    exact SeqAt.in_list_data r2 r1 q1 p1 (by omega) ⟨.bl _, H, I, rfl, h⟩
  · obtain ⟨bs, r2, _⟩ := hq.reads I _ ry
    exact SeqAt.in_tuple_data r2 r1 q1 p1 (by omega) ⟨.bl _, H, I, rfl, h⟩
theorem op_notInP (hu : X.A.units + 64 < cLine) : OpR X (compareOp .NotIn) (rInP true) := by
  intro pins s σ H x y v u Q I rx ry ⟨p, q, hp, hq, p1, q1, hd, h⟩
  obtain ⟨as, r1, _⟩ := hp.reads I _ rx
  rw [Bool.true_xor] at h
  rcases hq with hq | hq
  · obtain ⟨bs, r2, _⟩ := hq.reads I _ ry
    exact SeqAt.notIn_list_data r2 r1 q1 p1 (by omega) ⟨.bl _, H, I, rfl, h⟩
  · obtain ⟨bs, r2, _⟩ := hq.reads I _ ry
    exact SeqAt.notIn_tuple_data r2 r1 q1 p1 (by omega) ⟨.bl _, H, I, rfl, h⟩
end
/-- p == q, whatever plain data they are -/
@[simp] def gEq : D → D → (D → Prop) → Prop
  | .py (.tuple xs), .py (.tuple []), Q => Q (.py (.bool xs.isEmpty))
  | .py (.list xs), .py (.list []), Q => Q (.py (.bool xs.isEmpty))
  | .py p, .py q, Q => p.plain = true ∧ q.plain = true ∧ (p.depth ≤ 60 ∨ q.depth ≤ 60) ∧ Q (.py (.bool (p.eqv q)))
  | _, _, _ => False
@[simp] def gNe : D → D → (D → Prop) → Prop
  | .py (.tuple xs), .py (.tuple []), Q => Q (.py (.bool (!xs.isEmpty)))
  | .py (.list xs), .py (.list []), Q => Q (.py (.bool (!xs.isEmpty)))
  | .py p, .py q, Q => p.plain = true ∧ q.plain = true ∧ (p.depth ≤ 60 ∨ q.depth ≤ 60) ∧ Q (.py (.bool (!p.eqv q)))
  | _, _, _ => False
/-- x in c, c a list, a tuple, a text -/
@[simp] def gIn (neg : Bool) : D → D → (D → Prop) → Prop
  | .py (.str x), .py (.str y), Q => Q (.py (.bool (neg ^^ Txt.contains y x)))
  | .py p, .py (.list q), Q => p.plain = true ∧ PyData.plainAll q = true ∧ (p.depth ≤ 60 ∨ PyData.depthAll q ≤ 60) ∧ Q (.py (.bool (neg ^^ q.any fun y => PyData.eqv y p)))
  | .py p, .py (.tuple q), Q => p.plain = true ∧ PyData.plainAll q = true ∧ (p.depth ≤ 60 ∨ PyData.depthAll q ≤ 60) ∧ Q (.py (.bool (neg ^^ q.any fun y => PyData.eqv y p)))
  | _, _, _ => False
section
variable {X : Cx} {b : Bg} {W : WX} {e e1 e2 e3 : Expr} {es : List Expr} {t t1 t2 t3 : VT} {pos : Pos} {r : R2} {g : D → D → (D → Prop) → Prop}
/-- beside an empty one: no item is looked at -/
def rZ (K : PySem.W.Frag) (f : Bool → Bool) : R2 := fun x y H Q => ∃ a c xs, x = .ref a ∧ y = .ref c ∧ ((SqL K H a xs ∧ SqL K H c []) ∨ (SqT K H a xs ∧ SqT K H c [])) ∧ Q (.bl (f xs.isEmpty)) H
theorem op_eqZ (hu : X.A.units + 64 < cLine) : OpR X (compareOp .Eq) (rZ X.K id) := by
  intro pins s σ H x y v u Q I rx ry ⟨a, c, xs, ex, ey, hh, q⟩
  subst ex ey
  obtain rfl : v = .ref a := rx
  obtain rfl : u = .ref c := ry
  rcases hh with ⟨h1, h2⟩ | ⟨h1, h2⟩
  · obtain ⟨its, r, p, _⟩ := I.list h1
    obtain ⟨its2, r2, p2, _⟩ := I.list h2
    cases r2
    cases r with
    | nil => exact SeqAt.eq_listAt (e := fun _ => true) p.isList p2.isList rfl (by omega) (fun j h => absurd h (Nat.not_lt_zero j)) ⟨.bl _, H, I, rfl, q⟩
    | cons r rs => exact SeqAt.eq_list_lengthsAt p.isList p2.isList rfl (by omega) ⟨.bl _, H, I, rfl, q⟩
  · obtain ⟨its, r, p, _⟩ := I.tuple h1
    obtain ⟨its2, r2, p2, _⟩ := I.tuple h2
    cases r2
    refine SeqAt.eq_tupleAt (e := fun _ => true) p p2 (by omega) (fun j h1 h2 => absurd h2 (Nat.not_lt_zero j)) ⟨.bl _, H, I, ?_, q⟩
    cases r <;> simp [L2.RelV]
theorem op_neZ (hu : X.A.units + 64 < cLine) : OpR X (compareOp .NotEq) (rZ X.K not) := by
  intro pins s σ H x y v u Q I rx ry ⟨a, c, xs, ex, ey, hh, q⟩
  subst ex ey
  obtain rfl : v = .ref a := rx
  obtain rfl : u = .ref c := ry
  rcases hh with ⟨h1, h2⟩ | ⟨h1, h2⟩
  · obtain ⟨its, r, p, _⟩ := I.list h1
    obtain ⟨its2, r2, p2, _⟩ := I.list h2
    cases r2
    cases r with
    | nil => exact SeqAt.RcNeAt.lists (e := fun _ => true) p.isList p2.isList rfl (by omega) (fun j h => absurd h (Nat.not_lt_zero j)) _ _ _ _ ⟨.bl _, H, I, rfl, q⟩
    | cons r rs => exact SeqAt.RcNeAt.lists_lengths p.isList p2.isList rfl (by omega) _ _ _ _ ⟨.bl _, H, I, rfl, q⟩
  · obtain ⟨its, r, p, _⟩ := I.tuple h1
    obtain ⟨its2, r2, p2, _⟩ := I.tuple h2
    cases r2
    refine SeqAt.RcNeAt.tuples (e := fun _ => true) p p2 (by omega) (fun j h1 h2 => absurd h2 (Nat.not_lt_zero j)) _ _ _ _ ⟨.bl _, H, I, ?_, q⟩
    cases r <;> simp [L2.RelV]
theorem rz_of {f : Bool → Bool} {K : PySem.W.Frag} {Z : Addr → Prop} {H : Hp} {x y : V} {Q : VK} {Qd : D → Prop} {xs : List PyData} (gd : Gd b Z H) (h : Qd (.py (.bool (f xs.isEmpty)))) (k : ∀ v H' d, Ex b H H' → b.G H' → RE b Z H H' v d → Qd d → Q v H') :
    (Rb b Z H x (.py (.list xs)) → Rb b Z H y (.py (.list [])) → rZ K f x y H Q) ∧ (Rb b Z H x (.py (.tuple xs)) → Rb b Z H y (.py (.tuple [])) → rZ K f x y H Q) := by
  have ee : ∀ {us : List V}, Rqs Z H us xs → xs.isEmpty = us.isEmpty := fun q => by cases q <;> rfl
  refine ⟨fun rx ry => ?_, fun rx ry => ?_⟩
  · obtain ⟨a, us, rfl, ha, qa⟩ := rx.list
    obtain ⟨c, ws, rfl, hc, qc⟩ := ry.list
    cases qc
    exact ⟨a, c, us, rfl, rfl, .inl ⟨SqL.of ha, SqL.of hc⟩, k _ H (.py (.bool _)) Ex.refl gd.g (by rw [← ee qa]; exact .bl _) h⟩
  · obtain ⟨a, oa, us, rfl, ha, _, _, qa⟩ := rx.tuple
    obtain ⟨c, oc, ws, rfl, hc, _, _, qc⟩ := ry.tuple
    cases qc
    exact ⟨a, c, us, rfl, rfl, .inr ⟨SqT.th ha, SqT.th hc⟩, k _ H (.py (.bool _)) Ex.refl gd.g (by rw [← ee qa]; exact .bl _) h⟩
theorem rd_eq : OpD b (RE b) (fun x y H Q => rEqP x y H Q ∨ rZ X.K id x y H Q) gEq := by
  intro Z H x y dx dy Q Qd gd rx ry h k
  unfold gEq at h
  split at h
  · exact .inr ((rz_of (f := id) gd h k).2 rx ry)
  · exact .inr ((rz_of (f := id) gd h k).1 rx ry)
  · obtain ⟨h1, h2, h3, h⟩ := h
    exact .inl ⟨_, _, rx.q, ry.q, h1, h2, h3, k _ H (.py (.bool _)) Ex.refl gd.g (.bl _) h⟩
  · exact h.elim
theorem rd_ne : OpD b (RE b) (fun x y H Q => rNeP x y H Q ∨ rZ X.K not x y H Q) gNe := by
  intro Z H x y dx dy Q Qd gd rx ry h k
  unfold gNe at h
  split at h
  · exact .inr ((rz_of (f := not) gd h k).2 rx ry)
  · exact .inr ((rz_of (f := not) gd h k).1 rx ry)
  · obtain ⟨h1, h2, h3, h⟩ := h
    exact .inl ⟨_, _, rx.q, ry.q, h1, h2, h3, k _ H (.py (.bool _)) Ex.refl gd.g (.bl _) h⟩
  · exact h.elim
theorem ve_eq (hu : X.A.units + 64 < cLine) (h1 : VX X b W e1 t1) (h2 : VX X b W e2 t2) : VE X b W (.Compare e1 [.Eq] [e2] pos) (vBin gEq t1 t2) := ve_cmp (OpR.or (op_eqP hu) (op_eqZ hu)) rd_eq h1 h2 (nobehind _ (by decide) (by decide))
theorem ve_ne (hu : X.A.units + 64 < cLine) (h1 : VX X b W e1 t1) (h2 : VX X b W e2 t2) : VE X b W (.Compare e1 [.NotEq] [e2] pos) (vBin gNe t1 t2) := ve_cmp (OpR.or (op_neP hu) (op_neZ hu)) rd_ne h1 h2 (nobehind _ (by decide) (by decide))
theorem vt_eq (hu : X.A.units + 64 < cLine) (h1 : VX X b W e1 t1) (h2 : VX X b W e2 t2) : VTe X b W (.Compare e1 [.Eq] [e2] pos) (vTst (vBin gEq t1 t2)) := vt_cmp (OpR.or (op_eqP hu) (op_eqZ hu)) rd_eq h1 h2 (nobehind _ (by decide) (by decide))
theorem vt_ne (hu : X.A.units + 64 < cLine) (h1 : VX X b W e1 t1) (h2 : VX X b W e2 t2) : VTe X b W (.Compare e1 [.NotEq] [e2] pos) (vTst (vBin gNe t1 t2)) := vt_cmp (OpR.or (op_neP hu) (op_neZ hu)) rd_ne h1 h2 (nobehind _ (by decide) (by decide))
def rInS2 : R2 := fun x y H Q => ∃ i j, x = .str i ∧ y = .str j ∧ Q (.bl (Txt.contains j i)) H
def rNotInS2 : R2 := fun x y H Q => ∃ i j, x = .str i ∧ y = .str j ∧ Q (.bl (!Txt.contains j i)) H
theorem op_inS2 : OpR X (compareOp .In) rInS2 := fun pins s σ H x y v u Q I rx ry ⟨i, j, e1, e2, q⟩ => op_in_str pins s σ H x y v u Q I rx ry ⟨i, j, e1, e2, q⟩
theorem op_notInS2 : OpR X (compareOp .NotIn) rNotInS2 := fun pins s σ H x y v u Q I rx ry ⟨i, j, e1, e2, q⟩ => op_notIn_str pins s σ H x y v u Q I rx ry ⟨i, j, e1, e2, by
  have e : (Builtin.Str.occurrences j i 0 j.length 1).isEmpty = !Txt.contains j i := by unfold Txt.contains; rw [Bool.not_not]
  first | exact q | (rw [e]; exact q)⟩
theorem rd_in {neg : Bool} (r0 : R2) (h0 : ∀ (H : Hp) (i j : Str) (Q : VK), Q (.bl (neg ^^ Txt.contains j i)) H → r0 (.str i) (.str j) H Q) : OpD b (RE b) (fun x y H Q => r0 x y H Q ∨ rInP neg x y H Q) (gIn neg) := by
  intro Z H x y dx dy Q Qd gd rx ry h k
  have lst : ∀ {p : PyData} {q : List PyData}, Rb b Z H x (.py p) → Rb b Z H y (.py (.list q)) → (p.plain = true ∧ PyData.plainAll q = true ∧ (p.depth ≤ 60 ∨ PyData.depthAll q ≤ 60) ∧ Qd (.py (.bool (neg ^^ q.any fun y => PyData.eqv y p)))) → rInP neg x y H Q :=
    fun {p q} rx ry ⟨h1, h2, h3, h⟩ => ⟨p, q, rx.q, .inl ry.q, h1, h2, h3, k _ H (.py (.bool _)) Ex.refl gd.g (.bl _) h⟩
  have tup : ∀ {p : PyData} {q : List PyData}, Rb b Z H x (.py p) → Rb b Z H y (.py (.tuple q)) → (p.plain = true ∧ PyData.plainAll q = true ∧ (p.depth ≤ 60 ∨ PyData.depthAll q ≤ 60) ∧ Qd (.py (.bool (neg ^^ q.any fun y => PyData.eqv y p)))) → rInP neg x y H Q :=
    fun {p q} rx ry ⟨h1, h2, h3, h⟩ => ⟨p, q, rx.q, .inr ry.q, h1, h2, h3, k _ H (.py (.bool _)) Ex.refl gd.g (.bl _) h⟩
  match dx, dy, h, rx, ry with
  | .py (.str i), .py (.str j), h, rx, ry =>
    rw [rx.str, ry.str]
    exact .inl (h0 H i j Q (k _ H (.py (.bool _)) Ex.refl gd.g (.bl _) h))
  | .py .none, .py (.list q), h, rx, ry => exact .inr (lst rx ry h)
  | .py (.bool _), .py (.list q), h, rx, ry => exact .inr (lst rx ry h)
  | .py (.int _), .py (.list q), h, rx, ry => exact .inr (lst rx ry h)
  | .py (.str _), .py (.list q), h, rx, ry => exact .inr (lst rx ry h)
  | .py (.list _), .py (.list q), h, rx, ry => exact .inr (lst rx ry h)
  | .py (.tuple _), .py (.list q), h, rx, ry => exact .inr (lst rx ry h)
  | .py .none, .py (.tuple q), h, rx, ry => exact .inr (tup rx ry h)
  | .py (.bool _), .py (.tuple q), h, rx, ry => exact .inr (tup rx ry h)
  | .py (.int _), .py (.tuple q), h, rx, ry => exact .inr (tup rx ry h)
  | .py (.str _), .py (.tuple q), h, rx, ry => exact .inr (tup rx ry h)
  | .py (.list _), .py (.tuple q), h, rx, ry => exact .inr (tup rx ry h)
  | .py (.tuple _), .py (.tuple q), h, rx, ry => exact .inr (tup rx ry h)
  | .py (.dict _), .py (.list q), h, rx, ry => exact .inr (lst rx ry h)
  | .py (.dict _), .py (.tuple q), h, rx, ry => exact .inr (tup rx ry h)
theorem ve_in (hu : X.A.units + 64 < cLine) (h1 : VX X b W e1 t1) (h2 : VX X b W e2 t2) (hm : behindInMarks .In e2 = false := by rfl) : VE X b W (.Compare e1 [.In] [e2] pos) (vBin (gIn false) t1 t2) :=
  ve_cmp (OpR.or op_inS2 (op_inP hu)) (rd_in rInS2 fun H i j Q q => ⟨i, j, rfl, rfl, by rw [Bool.false_xor] at q; exact q⟩) h1 h2 hm
theorem vt_in (hu : X.A.units + 64 < cLine) (h1 : VX X b W e1 t1) (h2 : VX X b W e2 t2) (hm : behindInMarks .In e2 = false := by rfl) : VTe X b W (.Compare e1 [.In] [e2] pos) (vTst (vBin (gIn false) t1 t2)) :=
  vt_cmp (OpR.or op_inS2 (op_inP hu)) (rd_in rInS2 fun H i j Q q => ⟨i, j, rfl, rfl, by rw [Bool.false_xor] at q; exact q⟩) h1 h2 hm
theorem vt_notIn (hu : X.A.units + 64 < cLine) (h1 : VX X b W e1 t1) (h2 : VX X b W e2 t2) (hm : behindInMarks .NotIn e2 = false := by rfl) : VTe X b W (.Compare e1 [.NotIn] [e2] pos) (vTst (vBin (gIn true) t1 t2)) :=
  vt_cmp (OpR.or op_notInS2 (op_notInP hu)) (rd_in rNotInS2 fun H i j Q q => ⟨i, j, rfl, rfl, by rw [Bool.true_xor] at q; exact q⟩) h1 h2 hm
/-! ### is None -/
@[simp] def isNn : PyData → Bool
  | .none => true
  | _ => false
@[simp] def gIsN (neg : Bool) : D → D → (D → Prop) → Prop
  | .py p, .py .none, Q => Q (.py (.bool (neg ^^ isNn p)))
  | .raw v, .py .none, Q => Q (.py (.bool (neg ^^ decide (v = V.non))))
  | .obj _ _ _, .py .none, Q => Q (.py (.bool neg))
  | _, _, _ => False
theorem Rq.isN {Z : Addr → Prop} {H : Hp} {v : V} {p : PyData} (r : Rq Z H v p) : decide (v = V.non) = isNn p := by
  cases r <;> rfl
theorem rd_isN {neg : Bool} {f : Bool → Bool} (hf : ∀ k, f k = (neg ^^ k)) : OpD b (RE b) (fun x y H Q => y = .non ∧ Q (.bl (f (decide (x = .non)))) H) (gIsN neg) := by
  intro Z H x y dx dy Q Qd gd rx ry h k
  match dx, dy, h, rx, ry with
  | .py p, .py .none, h, rx, ry =>
    refine ⟨ry.none, ?_⟩
    rw [rx.q.isN, hf]
    exact k _ H (.py (.bool _)) Ex.refl gd.g (.bl _) h
  | .raw v, .py .none, h, rx, ry =>
    refine ⟨ry.none, ?_⟩
    have e : x = v := by
      rcases rx with r | ⟨a, e, _, _, q⟩
      · exact r
      · exact q.elim
    rw [hf, e]
    exact k _ H (.py (.bool _)) Ex.refl gd.g (.bl _) h
  | .obj _ _ _, .py .none, h, rx, ry =>
    refine ⟨ry.none, ?_⟩
    obtain ⟨dx, xs, e, _⟩ := rx.obj
    subst e
    rw [hf, decide_eq_false (by intro h; cases h), Bool.xor_false]
    exact k _ H (.py (.bool _)) Ex.refl gd.g (.bl _) h
theorem ve_notN (h1 : VX X b W e1 t1) (h2 : VX X b W e2 t2) : VE X b W (.Compare e1 [.IsNot] [e2] pos) (vBin (gIsN true) t1 t2) := ve_cmp op_notN (rd_isN (f := not) fun k => by rw [Bool.true_xor]) h1 h2 (nobehind _ (by decide) (by decide))
theorem vt_notN (h1 : VX X b W e1 t1) (h2 : VX X b W e2 t2) : VTe X b W (.Compare e1 [.IsNot] [e2] pos) (vTst (vBin (gIsN true) t1 t2)) := vt_cmp op_notN (rd_isN (f := not) fun k => by rw [Bool.true_xor]) h1 h2 (nobehind _ (by decide) (by decide))
/-! ### chains, and, or, not, if -/
@[simp] def vChain (g g' : D → D → (D → Prop) → Prop) (ta tb tc : VT) : VT := fun ρ Q E => ta ρ (fun x => tb ρ (fun y => g x y fun z => ∃ k, z = .py (.bool k) ∧ if k = true then tc ρ (fun w => g' y w Q) E else Q (.py (.bool false))) E) E
theorem chain_core {r' : R2} {g' : D → D → (D → Prop) → Prop} (hd : OpD b (RE b) r g) (hd' : OpD b (RE b) r' g') :
    ∀ σ H Q, LE b W (RE b) (vChain g g' t1 t2 t3) σ H Q → tChain r r' (LE b W (fun Z _ H v d => Rb b Z H v d) t1) (LE b W (fun Z _ H v d => Rb b Z H v d) t2) (LE b W (fun Z _ H v d => Rb b Z H v d) t3) σ H Q :=
  fun σ H Q ⟨Zo, Z, ρ, Qd, Ed, v, q, l, m⟩ => ⟨Zo, Z, ρ, _, Ed, v, q, fun x H1 d x1 g1 r1 q1 =>
    ⟨Zo, Z, ρ, _, Ed, v.ex x1 g1, q1, fun y H2 d2 x2 g2 r2 q2 => by
      have v2 := (v.ex x1 g1).ex x2 g2
      refine hd Z H2 x y d d2 _ _ v2.gd (r1.ex ((v.ex x1 g1).keep x2) x2) r2 q2 fun u H3 d3 x3 g3 r3 ⟨k, e3, q3⟩ => ?_
      subst e3
      refine ⟨k, Rb.bool (b := b) (Z := Z) (H := H3) (.inl r3), ?_⟩
      cases k with
      | false => exact l _ H3 (.py (.bool false)) ((x1.trans x2).trans x3) g3 (Rq.bl false) q3
      | true => exact ⟨Zo, Z, ρ, _, Ed, v2.ex x3 g3, q3, fun w H4 d4 x4 g4 r4 q4 => hd' Z H4 y w d2 d4 Q Qd ((v2.ex x3 g3).ex x4 g4).gd ((r2.ex (v2.keep x3) x3).ex ((v2.ex x3 g3).keep x4) x4) r4 q4
            fun u5 H5 d5 x5 g5 r5 q5 => l u5 H5 d5 ((((x1.trans x2).trans x3).trans x4).trans x5) g5 r5 q5,
          fun c z H4 er x4 g4 r4 q4 => m c z H4 er (((x1.trans x2).trans x3).trans x4) g4 r4 q4⟩,
      fun c z H2 er x2 g2 r2 q2 => m c z H2 er (x1.trans x2) g2 r2 q2⟩, m⟩
theorem ve_chain {op op' : CmpOp} {r' : R2} {g' : D → D → (D → Prop) → Prop} (ho : OpR X (compareOp op) r) (hd : OpD b (RE b) r g) (ho' : OpR X (compareOp op') r') (hd' : OpD b (RE b) r' g')
    (h1 : VX X b W e1 t1) (h2 : VX X b W e2 t2) (h3 : VX X b W e3 t3) (hm : lastMarks [op, op'] [e2, e3] = false) : VE X b W (.Compare e1 [op, op'] [e2, e3] pos) (vChain g g' t1 t2 t3) :=
  pe_mono (pe_chain ho ho' h1 h2 h3 hm) (chain_core hd hd')
theorem ve_le2 (h1 : VX X b W e1 t1) (h2 : VX X b W e2 t2) (h3 : VX X b W e3 t3) : VE X b W (.Compare e1 [.LtE, .LtE] [e2, e3] pos) (vChain gLe gLe t1 t2 t3) :=
  ve_chain op_le (rd_I0 fun _ _ _ _ => .bl _) op_le (rd_I0 fun _ _ _ _ => .bl _) h1 h2 h3 (by show behindInMarks _ _ = false; exact nobehind _ (by decide) (by decide))
@[simp] def vAnd (ta tb : VT) : VT := fun ρ Q E => ta ρ (fun x => ∃ k, x = .py (.bool k) ∧ if k = true then tb ρ Q E else Q (.py (.bool false))) E
@[simp] def vOr (ta tb : VT) : VT := fun ρ Q E => ta ρ (fun x => ∃ k, x = .py (.bool k) ∧ if k = true then Q (.py (.bool true)) else tb ρ Q E) E
@[simp] def vNot (ta : VT) : VT := fun ρ Q E => ta ρ (fun x => ∃ k, x = .py (.bool k) ∧ Q (.py (.bool (!k)))) E
theorem ve_one {op} (h : VE X b W e t) : VE X b W (.BoolOp op [e] pos) t := pe_one h
theorem ve_and (h1 : VX X b W e1 t1) (h2 : VE X b W (.BoolOp .And (e2 :: es) pos) t2) : VE X b W (.BoolOp .And (e1 :: e2 :: es) pos) (vAnd t1 t2) :=
  pe_mono (pe_and h1 h2) fun σ H Q ⟨Zo, Z, ρ, Qd, Ed, v, q, l, m⟩ => ⟨Zo, Z, ρ, _, Ed, v, q, fun x H1 d x1 g1 r1 ⟨k, e, q1⟩ => by
    subst e
    refine ⟨k, r1.bool, ?_⟩
    cases k with
    | false => exact l _ H1 (.py (.bool false)) x1 g1 (Rq.bl false) q1
    | true => exact ⟨Zo, Z, ρ, _, Ed, v.ex x1 g1, q1, fun y H2 d2 x2 g2 r2 q2 => l y H2 d2 (x1.trans x2) g2 r2 q2, fun c z H2 er x2 g2 r2 q2 => m c z H2 er (x1.trans x2) g2 r2 q2⟩, m⟩
theorem ve_or (h1 : VX X b W e1 t1) (h2 : VE X b W (.BoolOp .Or (e2 :: es) pos) t2) : VE X b W (.BoolOp .Or (e1 :: e2 :: es) pos) (vOr t1 t2) :=
  pe_mono (pe_or h1 h2) fun σ H Q ⟨Zo, Z, ρ, Qd, Ed, v, q, l, m⟩ => ⟨Zo, Z, ρ, _, Ed, v, q, fun x H1 d x1 g1 r1 ⟨k, e, q1⟩ => by
    subst e
    refine ⟨k, r1.bool, ?_⟩
    cases k with
    | true => exact l _ H1 (.py (.bool true)) x1 g1 (Rq.bl true) q1
    | false => exact ⟨Zo, Z, ρ, _, Ed, v.ex x1 g1, q1, fun y H2 d2 x2 g2 r2 q2 => l y H2 d2 (x1.trans x2) g2 r2 q2, fun c z H2 er x2 g2 r2 q2 => m c z H2 er (x1.trans x2) g2 r2 q2⟩, m⟩
theorem ve_not (h1 : VX X b W e1 t1) : VE X b W (.UnaryOp .Not e1 pos) (vNot t1) :=
  pe_mono (pe_not h1) fun σ H Q ⟨Zo, Z, ρ, Qd, Ed, v, q, l, m⟩ => ⟨Zo, Z, ρ, _, Ed, v, q, fun x H1 d x1 g1 r1 ⟨k, e, q1⟩ => by
    subst e
    exact ⟨k, r1.bool, l _ H1 (.py (.bool _)) x1 g1 (Rq.bl _) q1⟩, m⟩
@[simp] def vIf (c : VB) (ta tb : VT) : VT := fun ρ Q E => c ρ (fun k => if k = true then ta ρ Q E else tb ρ Q E) E
theorem ve_if {c : Expr} {tc : VB} (hc : VTe X b W c tc) (h1 : VE X b W e1 t1) (h2 : VE X b W e2 t2) : VE X b W (.IfExp c e1 e2 pos) (vIf tc t1 t2) :=
  pe_mono (pe_ifExp hc h1 h2) fun σ H Q ⟨Zo, Z, ρ, Qd, Ed, v, q, l, m⟩ => ⟨Zo, Z, ρ, _, Ed, v, q, fun k H1 x1 g1 q1 => by
    cases k with
    | true => exact ⟨Zo, Z, ρ, _, Ed, v.ex x1 g1, q1, fun y H2 d2 x2 g2 r2 q2 => l y H2 d2 (x1.trans x2) g2 r2 q2, fun c z H2 er x2 g2 r2 q2 => m c z H2 er (x1.trans x2) g2 r2 q2⟩
    | false => exact ⟨Zo, Z, ρ, _, Ed, v.ex x1 g1, q1, fun y H2 d2 x2 g2 r2 q2 => l y H2 d2 (x1.trans x2) g2 r2 q2, fun c z H2 er x2 g2 r2 q2 => m c z H2 er (x1.trans x2) g2 r2 q2⟩, m⟩
/-! ### tests -/
@[simp] def wAnd (t u : VB) : VB := fun ρ Q E => t ρ (fun c => if c = true then u ρ Q E else Q false) E
@[simp] def wOr (t u : VB) : VB := fun ρ Q E => t ρ (fun c => if c = true then Q true else u ρ Q E) E
@[simp] def wNot (t : VB) : VB := fun ρ Q E => t ρ (fun c => Q (!c)) E
/-- and, or: whatever their whole is -/
def VWe (X : Cx) (b : Bg) (W : WX) (e : Expr) (t : VB) : Prop := PW X e (LB b W t)
theorem pw_mono {e : Expr} {t t' : TT} (h : PW X e t) (m : ∀ σ H Q, t' σ H Q → t σ H Q) : PW X e t' := ⟨fun w pins s σ H Q I q => h.run w pins s σ H Q I (m σ H Q q)⟩
theorem VWe.pt {t : VB} (h : VWe X b W e t) : VTe X b W e t := PW.pt h
theorem lb_then {k : Bool} {u : VB} {Zo Z : Addr → Prop} {σ : L2.St} {H H1 : Hp} {ρ : VEnv} {Q : Bool → Hp → Prop} {Qd : Bool → Prop} {Ed : Er → Prop} (v : VOk b Zo Z σ H ρ) (l : ∀ k H', Ex b H H' → b.G H' → Qd k → Q k H') (m : ∀ c x H' er, Ex b H H' → b.G H' → ErRp b Z H' c x er → Ed er → W c x σ H')
    (x1 : Ex b H H1) (g1 : b.G H1) (q : u ρ Qd Ed) : LB b W u σ H1 Q :=
  ⟨Zo, Z, ρ, _, Ed, v.ex x1 g1, q, fun k H2 x2 g2 q2 => l k H2 (x1.trans x2) g2 q2, fun c z H2 er x2 g2 r2 q2 => m c z H2 er (x1.trans x2) g2 r2 q2⟩
theorem vw_and1 {t : VB} (h : VTe X b W e t) : VWe X b W (.BoolOp .And [e] pos) t := pw_and1 h
theorem vw_or1 {t : VB} (h : VTe X b W e t) : VWe X b W (.BoolOp .Or [e] pos) t := pw_or1 h
theorem vw_and {t u : VB} (h1 : VTe X b W e1 t) (h2 : VWe X b W (.BoolOp .And (e2 :: es) pos) u) : VWe X b W (.BoolOp .And (e1 :: e2 :: es) pos) (wAnd t u) :=
  pw_mono (pw_and h1 h2) fun σ H Q ⟨Zo, Z, ρ, Qd, Ed, v, q, l, m⟩ => ⟨Zo, Z, ρ, _, Ed, v, q, fun k H1 x1 g1 q1 => by
    cases k with
    | true => exact lb_then (k := true) v l m x1 g1 q1
    | false => exact l false H1 x1 g1 q1, m⟩
theorem vw_or {t u : VB} (h1 : VTe X b W e1 t) (h2 : VWe X b W (.BoolOp .Or (e2 :: es) pos) u) : VWe X b W (.BoolOp .Or (e1 :: e2 :: es) pos) (wOr t u) :=
  pw_mono (pw_or h1 h2) fun σ H Q ⟨Zo, Z, ρ, Qd, Ed, v, q, l, m⟩ => ⟨Zo, Z, ρ, _, Ed, v, q, fun k H1 x1 g1 q1 => by
    cases k with
    | false => exact lb_then (k := true) v l m x1 g1 q1
    | true => exact l true H1 x1 g1 q1, m⟩
theorem vt_not {t : VB} (h1 : VTe X b W e1 t) : VTe X b W (.UnaryOp .Not e1 pos) (wNot t) :=
  pt_mono (pt_not h1) fun σ H Q ⟨Zo, Z, ρ, Qd, Ed, v, q, l, m⟩ => ⟨Zo, Z, ρ, _, Ed, v, q, fun k H1 x1 g1 q1 => l _ H1 x1 g1 q1, m⟩
end
end VL
set_option Elab.async false
set_option linter.all false
set_option maxRecDepth 100000
set_option maxHeartbeats 4000000
namespace VL
open PySem PySem.Spec PyProof.Rows L2
/-- a text by its signs -/
abbrev mkS (l : List Nat) : Str := ⟨l.toArray⟩
abbrev sl (x : Str) : List Nat := x.cps.toList
/-! ### many borrowed values -/
inductive Rbs (b : Bg) (Z : Addr → Prop) (H : Hp) : List V → List D → Prop
  | nil : Rbs b Z H [] []
  | cons {v : V} {d : D} {vs : List V} {ds : List D} : Rb b Z H v d → Rbs b Z H vs ds → Rbs b Z H (v :: vs) (d :: ds)
def LAX (b : Bg) (W : WX) (t : VA) : TA := fun σ H Q => ∃ Zo Z ρ Qd Ed, VOk b Zo Z σ H ρ ∧ t ρ Qd Ed ∧
  (∀ v H' d, Ex b H H' → b.G H' → Rbs b Z H' v d → Qd d → Q v H') ∧ ∀ c x H' er, Ex b H H' → b.G H' → ErRp b Z H' c x er → Ed er → W c x σ H'
def VXs (X : Cx) (b : Bg) (W : WX) (es : List Expr) (t : VA) : Prop := PA X es (LAX b W t)
/-- a rule of a list of values -/
def CalD (b : Bg) (R : (Addr → Prop) → Hp → Hp → V → D → Prop) (r : List V → Hp → VK → Prop) (g : List D → (D → Prop) → Prop) : Prop :=
  ∀ (Z : Addr → Prop) (H : Hp) (x : List V) (dx : List D) (Q : VK) (Qd : D → Prop), Gd b Z H → Rbs b Z H x dx → g dx Qd → (∀ v H' d, Ex b H H' → b.G H' → R Z H H' v d → Qd d → Q v H') → r x H Q
@[simp] def vCal (g : List D → (D → Prop) → Prop) (ta : VA) : VT := fun ρ Q E => ta ρ (fun ds => g ds Q) E
@[simp] def vMet (g : D → List D → (D → Prop) → Prop) (to : VT) (ta : VA) : VT := fun ρ Q E => to ρ (fun d => ta ρ (fun ds => g d ds Q) E) E
section
variable {X : Cx} {b : Bg} {W : WX} {e e1 e2 e3 : Expr} {es : List Expr} {t t1 t2 t3 : VT} {u : VA} {pos p : Pos} {r : List V → Hp → VK → Prop} {g : List D → (D → Prop) → Prop} {x : Str} {id T : String}
theorem vxs_nil : VXs X b W [] vNil := pa_mono pa_nil fun σ H Q ⟨Zo, Z, ρ, Qd, Ed, v, q, l, _⟩ => l [] H [] Ex.refl v.g .nil q
theorem vxs_cons (h : VX X b W e t) (k : VXs X b W es u) (hs : starEach (e :: es) X.env = (false, eval e X.env) :: starEach es X.env := by rfl) : VXs X b W (e :: es) (vCons t u) :=
  pa_mono (pa_cons h k hs) fun σ H Q ⟨Zo, Z, ρ, Qd, Ed, v, q, l, m⟩ => ⟨Zo, Z, ρ, _, Ed, v, q, fun x H1 d x1 g1 r1 q1 =>
    ⟨Zo, Z, ρ, _, Ed, v.ex x1 g1, q1, fun xs H2 ds x2 g2 r2 q2 => l (x :: xs) H2 (d :: ds) (x1.trans x2) g2 (.cons (r1.ex ((v.ex x1 g1).keep x2) x2) r2) q2, fun c y H2 er x2 g2 r2 q2 => m c y H2 er (x1.trans x2) g2 r2 q2⟩, m⟩
theorem coreC {R : (Addr → Prop) → Hp → Hp → V → D → Prop} (hR : ∀ Z H H1 H2 v d, b.G H1 → Ex b H H1 → R Z H1 H2 v d → R Z H H2 v d) (hd : CalD b R r g) : ∀ σ H Q, LE b W R (vCal g u) σ H Q → tCB r (LAX b W u) σ H Q :=
  fun σ H Q ⟨Zo, Z, ρ, Qd, Ed, v, q, l, m⟩ => ⟨Zo, Z, ρ, _, Ed, v, q, fun xs H1 ds x1 g1 r1 q1 => hd Z H1 xs ds Q Qd (v.ex x1 g1).gd r1 q1 fun w H2 d x2 g2 r2 q2 => l w H2 d (x1.trans x2) g2 (hR _ _ _ _ _ _ g1 x1 r2) q2, m⟩
theorem ve_callB (hc : CallR X (.builtin id) r) (hd : CalD b (RE b) r g) (hg : Gl X x) (hm : X.mg x = none) (hv : bootBuiltins x = some (.builtin id)) (ha : VXs X b W (e :: es) u) (hn : x ≠ "__name__" := by decide) (hdb : (x == ("__debug__" : Str)) = false := by decide)
    (he : starEach (e :: es) X.env = (false, eval e X.env) :: starEach es X.env := by rfl) (hpl : (backTo pos (starEach es X.env)).any (·.1) = false := by rfl) : VE X b W (.Call (.Name x p) (e :: es) [] pos) (vCal g u) :=
  pe_mono (pe_callB hc hg hm hv ha hn hdb he hpl) (coreC hRE hd)
theorem ve_callTy (hc : CallR X (.type T) r) (hd : CalD b (RE b) r g) (hg : Gl X x) (hm : X.mg x = none) (hv : bootBuiltins x = some (.type T)) (ha : VXs X b W (e :: es) u) (hn : x ≠ "__name__" := by decide) (hdb : (x == ("__debug__" : Str)) = false := by decide)
    (he : starEach (e :: es) X.env = (false, eval e X.env) :: starEach es X.env := by rfl) (hpl : (backTo pos (starEach es X.env)).any (·.1) = false := by rfl) : VE X b W (.Call (.Name x p) (e :: es) [] pos) (vCal g u) :=
  pe_mono (pe_callTy hc hg hm hv ha hn hdb he hpl) (coreC hRE hd)
theorem vn_callTy (hc : CallR X (.type T) r) (hd : CalD b (RN b) r g) (hg : Gl X x) (hm : X.mg x = none) (hv : bootBuiltins x = some (.type T)) (ha : VXs X b W (e :: es) u) (hn : x ≠ "__name__" := by decide) (hdb : (x == ("__debug__" : Str)) = false := by decide)
    (he : starEach (e :: es) X.env = (false, eval e X.env) :: starEach es X.env := by rfl) (hpl : (backTo pos (starEach es X.env)).any (·.1) = false := by rfl) : VN X b W (.Call (.Name x p) (e :: es) [] pos) (vCal g u) :=
  pe_mono (pe_callTy hc hg hm hv ha hn hdb he hpl) (coreC hRN hd)
/-! ### items -/
@[simp] def gIx : D → D → (D → Prop) → Prop
  | .py (.list xs), .py (.int i), Q => ∃ d, atI xs i = some d ∧ Q (.py d)
  | .py (.tuple xs), .py (.int i), Q => ∃ d, atI xs i = some d ∧ Q (.py d)
  | .py (.str z), .py (.int i), Q => z.length ≤ sizeLine ∧ ∃ c, atI z.cps.toList i = some c ∧ Q (.py (.str (mkS [c])))
  | _, _, _ => False
theorem Rqs.atI {Z : Addr → Prop} {H : Hp} {v : List V} {d : List PyData} {i : Int} {x : PyData} (r : Rqs Z H v d) (h : L2.atI d i = some x) : ∃ u, L2.atI v i = some u ∧ Rq Z H u x := by
  unfold L2.atI at h ⊢
  rw [r.length]
  cases e : ixN d.length i with
  | none => rw [e] at h; cases h
  | some j =>
    rw [e] at h
    exact r.get h
theorem rd_ix {K : PySem.W.Frag} : OpD b (RE b) (rIx K) gIx := by
  intro Z H x y dx dy Q Qd gd rx ry h k
  match dx, dy, h, rx, ry with
  | .py (.list xs), .py (.int i), ⟨d, e, h⟩, rx, ry =>
    obtain ⟨a, us, rfl, ha, qa⟩ := rx.list
    obtain ⟨w, e1, r1⟩ := qa.atI e
    exact .inl ⟨a, us, i, w, rfl, ry.int, SqL.of ha, e1, k w H (.py d) Ex.refl gd.g r1 h⟩
  | .py (.tuple xs), .py (.int i), ⟨d, e, h⟩, rx, ry =>
    obtain ⟨a, oa, us, rfl, ha, da, na, qa⟩ := rx.tuple
    obtain ⟨w, e1, r1⟩ := qa.atI e
    exact .inr (.inl ⟨a, us, i, w, rfl, ry.int, SqT.th ha, e1, k w H (.py d) Ex.refl gd.g r1 h⟩)
  | .py (.str z), .py (.int i), ⟨hl, c, e, h⟩, rx, ry =>
    exact .inr (.inr ⟨z, i, c, rx.str, ry.int, hl, e, k _ H (.py (.str (mkS [c]))) Ex.refl gd.g (.str _) h⟩)
theorem ve_ix (h1 : VX X b W e1 t1) (h2 : VX X b W e2 t2) (hs : PlainIx e2 := by exact fun _ _ => rfl) : VE X b W (.Subscript e1 e2 pos) (vBin gIx t1 t2) :=
  pe_mono (pe_ix ix_seq h1 h2 hs) (core2 hRE rd_ix)
/-! ### slices -/
def cutL {α : Type} (xs : List α) (lo hi : Option Int) : List α := (xs.drop (HT.sIx xs.length 0 lo)).take (HT.sIx xs.length xs.length hi - HT.sIx xs.length 0 lo)
theorem Rqs.cut {Z : Addr → Prop} {H : Hp} {v : List V} {d : List PyData} (lo hi : Option Int) (r : Rqs Z H v d) : Rqs Z H (cutV v lo hi) (cutL d lo hi) := by
  unfold cutV cutL
  rw [r.length]
  exact (r.drop _).take _
theorem cutL_whole {α : Type} {xs : List α} {lo hi : Option Int} (h : HT.sIx xs.length 0 lo = 0 ∧ HT.sIx xs.length xs.length hi = xs.length) : cutL xs lo hi = xs := by
  unfold cutL
  rw [h.1, h.2]
  simp
abbrev VO := VEnv → (Option Int → Prop) → (Er → Prop) → Prop
def LO (b : Bg) (W : WX) (t : VO) : TO := fun σ H Q => ∃ Zo Z ρ Qd Ed, VOk b Zo Z σ H ρ ∧ t ρ Qd Ed ∧
  (∀ k H', Ex b H H' → b.G H' → Qd k → Q k H') ∧ ∀ c x H' er, Ex b H H' → b.G H' → ErRp b Z H' c x er → Ed er → W c x σ H'
def VPt (X : Cx) (b : Bg) (W : WX) (e : Option Expr) (t : VO) : Prop := PO X e (LO b W t)
theorem po_mono {e : Option Expr} {t t' : TO} (h : PO X e t) (m : ∀ σ H Q, t' σ H Q → t σ H Q) : PO X e t' := ⟨fun pins s σ H Q I q => h.run pins s σ H Q I (m σ H Q q)⟩
@[simp] def oNo : VO := fun _ Q _ => Q none
@[simp] def oAt (t : VT) : VO := fun ρ Q E => t ρ (fun d => ∃ i, d = .py (.int i) ∧ Q (some i)) E
theorem vo_no : VPt X b W none oNo := po_mono po_none fun σ H Q ⟨Zo, Z, ρ, Qd, Ed, v, q, l, m⟩ => l none H Ex.refl v.g q
theorem vo_at (h : VX X b W e t) : VPt X b W (some e) (oAt t) := po_mono (po_some h) fun σ H Q ⟨Zo, Z, ρ, Qd, Ed, v, q, l, m⟩ => ⟨Zo, Z, ρ, _, Ed, v, q, fun x H1 d x1 g1 r1 ⟨i, e, q1⟩ => by
    subst e
    exact ⟨i, r1.int, l _ H1 x1 g1 q1⟩, m⟩
@[simp] def gSl : D → Option Int → Option Int → (D → Prop) → Prop
  | .py (.list xs), lo, hi, Q => Q (.py (.list (cutL xs lo hi)))
  | .py (.tuple xs), lo, hi, Q => Q (.py (.tuple (cutL xs lo hi)))
  | .py (.str z), lo, hi, Q => z.length ≤ sizeLine ∧ Q (.py (.str (mkS (cutL z.cps.toList lo hi))))
  | _, _, _, _ => False
@[simp] def gSlL : D → Option Int → Option Int → (D → Prop) → Prop
  | .py (.list xs), lo, hi, Q => Q (.py (.list (cutL xs lo hi)))
  | _, _, _, _ => False
@[simp] def vSl (g : D → Option Int → Option Int → (D → Prop) → Prop) (t : VT) (tl th : VO) : VT := fun ρ Q E => t ρ (fun x => tl ρ (fun lo => th ρ (fun hi => g x lo hi Q) E) E) E
def SliD (b : Bg) (R : (Addr → Prop) → Hp → Hp → V → D → Prop) (r : V → Option Int → Option Int → Hp → VK → Prop) (g : D → Option Int → Option Int → (D → Prop) → Prop) : Prop :=
  ∀ (Z : Addr → Prop) (H : Hp) (x : V) (lo hi : Option Int) (dx : D) (Q : VK) (Qd : D → Prop), Gd b Z H → Rb b Z H x dx → g dx lo hi Qd → (∀ v H' d, Ex b H H' → b.G H' → R Z H H' v d → Qd d → Q v H') → r x lo hi H Q
theorem coreS {R : (Addr → Prop) → Hp → Hp → V → D → Prop} {r : V → Option Int → Option Int → Hp → VK → Prop} {g : D → Option Int → Option Int → (D → Prop) → Prop} {tl th : VO} (hR : ∀ Z H H1 H2 v d, b.G H1 → Ex b H H1 → R Z H1 H2 v d → R Z H H2 v d) (hd : SliD b R r g) :
    ∀ σ H Q, LE b W R (vSl g t tl th) σ H Q → tSl r (LE b W (fun Z _ H v d => Rb b Z H v d) t) (LO b W tl) (LO b W th) σ H Q :=
  fun σ H Q ⟨Zo, Z, ρ, Qd, Ed, v, q, l, m⟩ => ⟨Zo, Z, ρ, _, Ed, v, q, fun x H1 d x1 g1 r1 q1 =>
    ⟨Zo, Z, ρ, _, Ed, v.ex x1 g1, q1, fun lo H2 x2 g2 q2 => ⟨Zo, Z, ρ, _, Ed, (v.ex x1 g1).ex x2 g2, q2, fun hi H3 x3 g3 q3 =>
        hd Z H3 x lo hi d Q Qd (((v.ex x1 g1).ex x2 g2).ex x3 g3).gd ((r1.ex ((v.ex x1 g1).keep x2) x2).ex (((v.ex x1 g1).ex x2 g2).keep x3) x3) q3 fun u H4 d4 x4 g4 r4 q4 => l u H4 d4 (((x1.trans x2).trans x3).trans x4) g4 (hR _ _ _ _ _ _ g3 ((x1.trans x2).trans x3) r4) q4,
        fun c z H3 er x3 g3 r3 q3 => m c z H3 er ((x1.trans x2).trans x3) g3 r3 q3⟩,
      fun c z H2 er x2 g2 r2 q2 => m c z H2 er (x1.trans x2) g2 r2 q2⟩, m⟩
theorem rd_slL {K : PySem.W.Frag} : SliD b (RN b) (rSlL K) gSlL := by
  intro Z H x lo hi dx Q Qd gd rx h k
  match dx, h, rx with
  | .py (.list xs), h, rx =>
    obtain ⟨a, us, rfl, ha, qa⟩ := rx.list
    exact ⟨a, us, rfl, SqL.of ha, fun p hp => k _ _ (.py (.list (cutL xs lo hi))) (Ex.new hp) (gd.new hp) ⟨p, rfl, hp, _, upd_same, (qa.cut lo hi).up' hp⟩ h⟩
theorem cutS_eq (z : Str) (lo hi : Option Int) : cutS z lo hi = mkS (cutL z.cps.toList lo hi) := by
  unfold cutS cutL
  first | rfl | simp [Str.length]
theorem rd_sl {K : PySem.W.Frag} : SliD b (RE b) (fun x lo hi H Q => rSlL K x lo hi H Q ∨ (fun x lo hi H Q => rSlF K x lo hi H Q ∨ rSlS x lo hi H Q) x lo hi H Q) gSl := by
  intro Z H x lo hi dx Q Qd gd rx h k
  match dx, h, rx with
  | .py (.list xs), h, rx =>
    refine .inl (rd_slL Z H x lo hi (.py (.list xs)) Q Qd gd rx h fun v H' d x1 g1 ⟨a, e, n, o⟩ q1 => k v H' d x1 g1 ?_ q1)
    subst e
    exact o.rp (fun _ z => .inl z) (gd.fresh n)
  | .py (.tuple xs), h, rx =>
    obtain ⟨a, oa, us, rfl, ha, da, na, qa⟩ := rx.tuple
    refine .inr (.inl ⟨a, us, rfl, SqT.th ha, fun hw => ?_, fun _ p o hp ho => ?_⟩)
    · rw [qa.length] at hw
      have h : Qd (.py (.tuple (cutL xs lo hi))) := h
      rw [cutL_whole hw] at h
      exact k _ H (.py (.tuple xs)) Ex.refl gd.g (.tup ha da na qa) h
    · exact k _ _ (.py (.tuple (cutL xs lo hi))) (Ex.new hp) (gd.new hp) (.tup upd_same ho (gd.fresh hp) ((qa.cut lo hi).up hp)) h
  | .py (.str z), ⟨hl, h⟩, rx =>
    refine .inr (.inr ⟨z, rx.str, hl, ?_⟩)
    rw [cutS_eq]
    exact k _ H (.py (.str _)) Ex.refl gd.g (.str _) h
theorem ve_sl {lo hi : Option Expr} {tl th : VO} {p2 : Pos} (h : VX X b W e t) (h1 : VPt X b W lo tl) (h2 : VPt X b W hi th) : VE X b W (.Subscript e (.Slice lo hi none p2) pos) (vSl gSl t tl th) :=
  pe_mono (pe_slice (sl_list.or (sl_tupF.or sl_str)) h h1 h2) (coreS hRE rd_sl)
end
end VL
set_option Elab.async false
set_option linter.all false
set_option maxRecDepth 100000
set_option maxHeartbeats 4000000
namespace VL
open PySem PySem.Spec PyProof.Rows L2
section
variable {X : Cx} {b : Bg} {W : WX} {e e1 e2 e3 o : Expr} {es : List Expr} {t t1 t2 t3 : VT} {u : VA} {pos p apos cpos : Pos} {x name : Str} {id T : String}
theorem Rbs.one {Z : Addr → Prop} {H : Hp} {v : List V} {d : D} (r : Rbs b Z H v [d]) : ∃ x, v = [x] ∧ Rb b Z H x d := by
  cases r with
  | cons r t => cases t; exact ⟨_, rfl, r⟩
theorem Rbs.two {Z : Addr → Prop} {H : Hp} {v : List V} {d d2 : D} (r : Rbs b Z H v [d, d2]) : ∃ x y, v = [x, y] ∧ Rb b Z H x d ∧ Rb b Z H y d2 := by
  cases r with
  | cons r t =>
    cases t with
    | cons r2 t => cases t; exact ⟨_, _, rfl, r, r2⟩
/-! ### built-in functions -/
@[simp] def gLen : List D → (D → Prop) → Prop
  | [.py (.list xs)], Q => Q (.py (.int xs.length))
  | [.py (.tuple xs)], Q => Q (.py (.int xs.length))
  | [.py (.str z)], Q => z.length ≤ sizeLine ∧ Q (.py (.int z.length))
  | [.py (.dict xs)], Q => Q (.py (.int xs.length))
  | _, _ => False
def rLen (K : PySem.W.Frag) : List V → Hp → VK → Prop := fun xs H Q => (fun xs H Q => ∃ x n, xs = [x] ∧ LenV K x H n ∧ Q (.int n) H) xs H Q ∨ (fun xs H Q => ∃ a kvs, xs = [V.ref a] ∧ H a = some (.dK kvs) ∧ Q (.int kvs.length) H) xs H Q
theorem rd_len : CalD b (RE b) (rLen X.K) gLen := by
  intro Z H vs ds Q Qd gd rx h k
  match ds, h, rx with
  | [.py (.list xs)], h, rx =>
    obtain ⟨x, rfl, r⟩ := rx.one
    obtain ⟨a, us, rfl, ha, qa⟩ := r.list
    exact .inl ⟨_, us.length, rfl, .inl ⟨us, SqL.of ha, rfl⟩, k _ H (.py (.int us.length)) Ex.refl gd.g (.int _) (by rw [qa.length]; exact h)⟩
  | [.py (.tuple xs)], h, rx =>
    obtain ⟨x, rfl, r⟩ := rx.one
    obtain ⟨a, oa, us, rfl, ha, da, na, qa⟩ := r.tuple
    exact .inl ⟨_, us.length, rfl, .inr ⟨us, SqT.th ha, rfl⟩, k _ H (.py (.int us.length)) Ex.refl gd.g (.int _) (by rw [qa.length]; exact h)⟩
  | [.py (.str z)], ⟨hl, h⟩, rx =>
    obtain ⟨x, rfl, r⟩ := rx.one
    exact .inl ⟨_, z.length, rfl, (by rw [r.str]; exact ⟨hl, rfl⟩), k _ H (.py (.int z.length)) Ex.refl gd.g (.int _) h⟩
  | [.py (.dict xs)], h, rx =>
    obtain ⟨x, rfl, r⟩ := rx.one
    obtain ⟨a, us, rfl, ha, qa⟩ := r.dict
    exact .inr ⟨a, us, rfl, ha, k _ H (.py (.int us.length)) Ex.refl gd.g (.int _) (by rw [qa.length]; exact h)⟩
theorem ve_len (hg : Gl X "len") (hm : X.mg "len" = none) (ha : VXs X b W [e] u) (he : starEach [e] X.env = (false, eval e X.env) :: starEach [] X.env := by rfl) (hpl : (backTo pos (starEach [] X.env)).any (·.1) = false := by rfl) :
    VE X b W (.Call (.Name "len" p) [e] [] pos) (vCal gLen u) := ve_callB (CallR.or call_len call_lenD) rd_len hg hm PySem.boot_len ha (by decide) (by decide) he hpl
@[simp] def gAbs : List D → (D → Prop) → Prop
  | [.py (.int i)], Q => Q (.py (.int (if i < 0 then -i else i)))
  | _, _ => False
@[simp] def gInt : List D → (D → Prop) → Prop
  | [.py (.int i)], Q => Q (.py (.int i))
  | [.py (.bool k)], Q => Q (.py (.int (if k then 1 else 0)))
  | [.py (.str z)], Q => ∃ n, intText? z = some n ∧ z.length ≤ 640 ∧ Q (.py (.int n))
  | _, _ => False
@[simp] def gStr : List D → (D → Prop) → Prop
  | [.py (.int i)], Q => i.natAbs.log2 < 1920 ∧ Q (.py (.str (toString i)))
  | [.py (.str z)], Q => Q (.py (.str z))
  | _, _ => False
@[simp] def gBool : List D → (D → Prop) → Prop
  | [.py (.int i)], Q => Q (.py (.bool (i != 0)))
  | [.py (.bool k)], Q => Q (.py (.bool k))
  | _, _ => False
@[simp] def gTuple : List D → (D → Prop) → Prop
  | [.py (.list xs)], Q => Q (.py (.tuple xs))
  | [.py (.tuple xs)], Q => Q (.py (.tuple xs))
  | _, _ => False
theorem rd_tuple {K : PySem.W.Frag} : CalD b (RE b) (rTupOf K) gTuple := by
  intro Z H vs ds Q Qd gd rx h k
  match ds, h, rx with
  | [.py (.list xs)], h, rx =>
    obtain ⟨x, rfl, r⟩ := rx.one
    obtain ⟨a, us, rfl, ha, qa⟩ := r.list
    exact ⟨a, us, rfl, .inl ⟨SqL.of ha, fun p o hp ho => k _ _ (.py (.tuple xs)) (Ex.new hp) (gd.new hp) (.tup upd_same ho (gd.fresh hp) (qa.up hp)) h⟩⟩
  | [.py (.tuple xs)], h, rx =>
    obtain ⟨x, rfl, r⟩ := rx.one
    obtain ⟨a, oa, us, rfl, ha, da, na, qa⟩ := r.tuple
    exact ⟨a, us, rfl, .inr ⟨SqT.th ha, k _ H (.py (.tuple xs)) Ex.refl gd.g (.tup ha da na qa) h⟩⟩
@[simp] def gList : List D → (D → Prop) → Prop
  | [.py (.list xs)], Q => Q (.py (.list xs))
  | [.py (.tuple xs)], Q => Q (.py (.list xs))
  | _, _ => False
theorem rd_list {K : PySem.W.Frag} : CalD b (RN b) (fun xs H Q => ∃ p ys, xs = [.ref p] ∧ (SqL K H p ys ∨ SqT K H p ys) ∧ ∀ l, H l = none → Q (.ref l) (upd H l (.lst ys))) gList := by
  intro Z H vs ds Q Qd gd rx h k
  match ds, h, rx with
  | [.py (.list xs)], h, rx =>
    obtain ⟨x, rfl, r⟩ := rx.one
    obtain ⟨a, us, rfl, ha, qa⟩ := r.list
    exact ⟨a, us, rfl, .inl (SqL.of ha), fun p hp => k _ _ (.py (.list xs)) (Ex.new hp) (gd.new hp) ⟨p, rfl, hp, us, upd_same, qa.up' hp⟩ h⟩
  | [.py (.tuple xs)], h, rx =>
    obtain ⟨x, rfl, r⟩ := rx.one
    obtain ⟨a, oa, us, rfl, ha, da, na, qa⟩ := r.tuple
    exact ⟨a, us, rfl, .inr (SqT.th ha), fun p hp => k _ _ (.py (.list xs)) (Ex.new hp) (gd.new hp) ⟨p, rfl, hp, us, upd_same, qa.up' hp⟩ h⟩
def allB : List PyData → Option (List Bool)
  | [] => some []
  | .bool k :: r => (allB r).map (k :: ·)
  | _ :: _ => none
def allI : List PyData → Option (List Int)
  | [] => some []
  | .int k :: r => (allI r).map (k :: ·)
  | _ :: _ => none
def allS : List PyData → Option (List Str)
  | [] => some []
  | .str k :: r => (allS r).map (k :: ·)
  | _ :: _ => none
theorem allI_map (l : List Int) : allI (l.map PyData.int) = some l := by
  induction l with
  | nil => rfl
  | cons a l ih => simp [allI, ih]
theorem allB_of : ∀ {l : List PyData} {bs : List Bool}, allB l = some bs → l = bs.map PyData.bool
  | [], _, h => by cases h; rfl
  | .bool k :: r, bs, h => by
    cases e : allB r with
    | none => rw [allB, e] at h; cases h
    | some q => rw [allB, e] at h; cases h; rw [List.map_cons, ← allB_of e]
  | .none :: _, _, h | .int _ :: _, _, h | .str _ :: _, _, h | .list _ :: _, _, h | .tuple _ :: _, _, h | .dict _ :: _, _, h => by cases h
theorem allI_of : ∀ {l : List PyData} {bs : List Int}, allI l = some bs → l = bs.map PyData.int
  | [], _, h => by cases h; rfl
  | .int k :: r, bs, h => by
    cases e : allI r with
    | none => rw [allI, e] at h; cases h
    | some q => rw [allI, e] at h; cases h; rw [List.map_cons, ← allI_of e]
  | .none :: _, _, h | .bool _ :: _, _, h | .str _ :: _, _, h | .list _ :: _, _, h | .tuple _ :: _, _, h | .dict _ :: _, _, h => by cases h
@[simp] def gSum : List D → (D → Prop) → Prop
  | [.py (.list xs)], Q => ∃ ns, allI xs = some ns ∧ Q (.py (.int ns.sum))
  | _, _ => False
@[simp] def gAll : List D → (D → Prop) → Prop
  | [.py (.list xs)], Q => ∃ ns, allB xs = some ns ∧ Q (.py (.bool (ns.all fun k => k)))
  | _, _ => False
@[simp] def gAny : List D → (D → Prop) → Prop
  | [.py (.list xs)], Q => ∃ ns, allB xs = some ns ∧ Q (.py (.bool (ns.any fun k => k)))
  | _, _ => False
theorem rd_all {K : PySem.W.Frag} : CalD b (RE b) (rAll K) gAll := by
  intro Z H vs ds Q Qd gd rx h k
  match ds, h, rx with
  | [.py (.list xs)], ⟨ns, e, h⟩, rx =>
    obtain ⟨x, rfl, r⟩ := rx.one
    obtain ⟨a, us, rfl, ha, qa⟩ := r.list
    rw [allB_of e] at qa
    rw [qa.bools] at ha
    exact ⟨a, ns, rfl, SqL.of ha, k _ H (.py (.bool _)) Ex.refl gd.g (.bl _) h⟩
/-- the greatest, the least -/
def maxL : List Int → Int
  | [] => 0
  | [a] => a
  | a :: r => max a (maxL r)
def minL : List Int → Int
  | [] => 0
  | [a] => a
  | a :: r => min a (minL r)
theorem maxL_spec : ∀ (l : List Int), l ≠ [] → maxL l ∈ l ∧ ∀ y, y ∈ l → y ≤ maxL l
  | [], h => absurd rfl h
  | [a], _ => by simp [maxL]
  | a :: c :: r, _ => by
    obtain ⟨h1, h2⟩ := maxL_spec (c :: r) (by simp)
    show max a (maxL (c :: r)) ∈ _ ∧ ∀ y, y ∈ _ → y ≤ max a (maxL (c :: r))
    refine ⟨?_, fun y hy => ?_⟩
    · rcases Int.le_total a (maxL (c :: r)) with h | h
      · rw [Int.max_eq_right h]; exact List.mem_cons_of_mem _ h1
      · rw [Int.max_eq_left h]; exact List.mem_cons_self
    · rcases List.mem_cons.mp hy with rfl | hy
      · exact Int.le_max_left _ _
      · exact Int.le_trans (h2 y hy) (Int.le_max_right _ _)
theorem minL_spec : ∀ (l : List Int), l ≠ [] → minL l ∈ l ∧ ∀ y, y ∈ l → minL l ≤ y
  | [], h => absurd rfl h
  | [a], _ => by simp [minL]
  | a :: c :: r, _ => by
    obtain ⟨h1, h2⟩ := minL_spec (c :: r) (by simp)
    show min a (minL (c :: r)) ∈ _ ∧ ∀ y, y ∈ _ → min a (minL (c :: r)) ≤ y
    refine ⟨?_, fun y hy => ?_⟩
    · rcases Int.le_total a (minL (c :: r)) with h | h
      · rw [Int.min_eq_left h]; exact List.mem_cons_self
      · rw [Int.min_eq_right h]; exact List.mem_cons_of_mem _ h1
    · rcases List.mem_cons.mp hy with rfl | hy
      · exact Int.min_le_left _ _
      · exact Int.le_trans (Int.min_le_right _ _) (h2 y hy)
@[simp] def gMax : List D → (D → Prop) → Prop
  | [.py (.list xs)], Q => ∃ ns, allI xs = some ns ∧ ns ≠ [] ∧ Q (.py (.int (maxL ns)))
  | [.py (.int i), .py (.int j)], Q => Q (.py (.int (max i j)))
  | _, _ => False
@[simp] def gMin : List D → (D → Prop) → Prop
  | [.py (.list xs)], Q => ∃ ns, allI xs = some ns ∧ ns ≠ [] ∧ Q (.py (.int (minL ns)))
  | [.py (.int i), .py (.int j)], Q => Q (.py (.int (min i j)))
  | _, _ => False
theorem rd_max {K : PySem.W.Frag} : CalD b (RE b) (fun xs H Q => (fun xs H Q => ∃ i j, xs = [.int i, .int j] ∧ Q (.int (if j > i then j else i)) H) xs H Q ∨ rMax K xs H Q) gMax := by
  intro Z H vs ds Q Qd gd rx h k
  match ds, h, rx with
  | [.py (.list xs)], ⟨ns, e, hne, h⟩, rx =>
    obtain ⟨x, rfl, r⟩ := rx.one
    obtain ⟨a, us, rfl, ha, qa⟩ := r.list
    rw [allI_of e] at qa
    rw [qa.ints] at ha
    refine .inr ⟨a, ns, rfl, SqL.of ha, List.length_pos_iff.mpr hne, fun m hm hl => ?_⟩
    obtain ⟨h1, h2⟩ := maxL_spec ns hne
    have e : m = maxL ns := Int.le_antisymm (h2 m hm) (hl _ h1)
    rw [e]
    exact k _ H (.py (.int _)) Ex.refl gd.g (.int _) h
  | [.py (.int i), .py (.int j)], h, rx =>
    obtain ⟨x, y, rfl, r1, r2⟩ := rx.two
    refine .inl ⟨i, j, by rw [r1.int, r2.int], ?_⟩
    have e : (if j > i then j else i) = max i j := by split <;> omega
    rw [e]
    exact k _ H (.py (.int _)) Ex.refl gd.g (.int _) h
theorem rd_min {K : PySem.W.Frag} : CalD b (RE b) (fun xs H Q => (fun xs H Q => ∃ i j, xs = [.int i, .int j] ∧ Q (.int (if j < i then j else i)) H) xs H Q ∨ rMin K xs H Q) gMin := by
  intro Z H vs ds Q Qd gd rx h k
  match ds, h, rx with
  | [.py (.list xs)], ⟨ns, e, hne, h⟩, rx =>
    obtain ⟨x, rfl, r⟩ := rx.one
    obtain ⟨a, us, rfl, ha, qa⟩ := r.list
    rw [allI_of e] at qa
    rw [qa.ints] at ha
    refine .inr ⟨a, ns, rfl, SqL.of ha, List.length_pos_iff.mpr hne, fun m hm hl => ?_⟩
    obtain ⟨h1, h2⟩ := minL_spec ns hne
    have e : m = minL ns := Int.le_antisymm (hl _ h1) (h2 m hm)
    rw [e]
    exact k _ H (.py (.int _)) Ex.refl gd.g (.int _) h
  | [.py (.int i), .py (.int j)], h, rx =>
    obtain ⟨x, y, rfl, r1, r2⟩ := rx.two
    refine .inl ⟨i, j, by rw [r1.int, r2.int], ?_⟩
    have e : (if j < i then j else i) = min i j := by split <;> omega
    rw [e]
    exact k _ H (.py (.int _)) Ex.refl gd.g (.int _) h
/-! ### isinstance of built-in kinds -/
/-- is data of that built-in class? -/
@[simp] def dInt : PyData → Bool
  | .int _ => true | .bool _ => true | _ => false
@[simp] def dBool : PyData → Bool
  | .bool _ => true | _ => false
@[simp] def dStr : PyData → Bool
  | .str _ => true | _ => false
@[simp] def dTuple : PyData → Bool
  | .tuple _ => true | _ => false
@[simp] def dList : PyData → Bool
  | .list _ => true | _ => false
def isK (T : String) (d : PyData) : Option Bool := if T = "int" then some (dInt d) else if T = "bool" then some (dBool d) else if T = "str" then some (dStr d) else if T = "tuple" then some (dTuple d) else if T = "list" then some (dList d) else none
@[simp] theorem isK_int (d : PyData) : isK "int" d = some (dInt d) := rfl
@[simp] theorem isK_bool (d : PyData) : isK "bool" d = some (dBool d) := rfl
@[simp] theorem isK_str (d : PyData) : isK "str" d = some (dStr d) := rfl
@[simp] theorem isK_tuple (d : PyData) : isK "tuple" d = some (dTuple d) := rfl
@[simp] theorem isK_list (d : PyData) : isK "list" d = some (dList d) := rfl
def tyName : PyData → String
  | .none => "NoneType" | .bool _ => "bool" | .int _ => "int" | .str _ => "str" | .list _ => "list" | .tuple _ => "tuple" | .dict _ => "dict"
theorem isi_int (d : PyData) : kitB (tyName d) "int" = some (dInt d) := by cases d <;> (simp only [tyName, dInt]; decide +kernel)
theorem isi_bool (d : PyData) : kitB (tyName d) "bool" = some (dBool d) := by cases d <;> (simp only [tyName, dBool]; decide +kernel)
theorem isi_str (d : PyData) : kitB (tyName d) "str" = some (dStr d) := by cases d <;> (simp only [tyName, dStr]; decide +kernel)
theorem isi_tuple (d : PyData) : kitB (tyName d) "tuple" = some (dTuple d) := by cases d <;> (simp only [tyName, dTuple]; decide +kernel)
theorem isi_list (d : PyData) : kitB (tyName d) "list" = some (dList d) := by cases d <;> (simp only [tyName, dList]; decide +kernel)
theorem isi_of {T : String} {d : PyData} {c : Bool} (h : isK T d = some c) : kitB (tyName d) T = some c := by
  unfold isK at h
  split at h
  · subst T; rw [isi_int]; exact h
  split at h
  · subst T; rw [isi_bool]; exact h
  split at h
  · subst T; rw [isi_str]; exact h
  split at h
  · subst T; rw [isi_tuple]; exact h
  split at h
  · subst T; rw [isi_list]; exact h
  · cases h
theorem tyx_of {K : PySem.W.Frag} {Z : Addr → Prop} {H : Hp} {v : V} {d : PyData} (r : Rq Z H v d) : TyX K H v (.type (tyName d)) := by
  cases r with
  | non => exact .base .non
  | bl k => exact .base (.bl k)
  | int i => exact .base (.int i)
  | str x => exact .base (.str x)
  | lst e n q => exact .base (.lst e)
  | tup e h n q => exact .fTuple e
  | dct e n q => exact .base (.dK e)
@[simp] def gIsi : List D → (D → Prop) → Prop
  | [.py d, .raw (.ty T)], Q => ∃ k, isK T d = some k ∧ Q (.py (.bool k))
  | _, _ => False
theorem rd_isi {K : PySem.W.Frag} : CalD b (RE b) (rIsi K) gIsi := by
  intro Z H vs ds Q Qd gd rx h k
  match ds, h, rx with
  | [.py d, .raw (.ty T)], ⟨c, e, h⟩, rx =>
    obtain ⟨x, y, rfl, r1, r2⟩ := rx.two
    have ey : y = .ty T := by
      rcases r2 with r | ⟨a, e, _, _, q⟩
      · exact r
      · exact q.elim
    subst ey
    exact ⟨x, .ty T, _, .type T, c, rfl, .ty T, tyx_of r1.q, kit_ty (isi_of e), k _ H (.py (.bool c)) Ex.refl gd.g (.bl c) h⟩
/-- the built-in class as a value -/
theorem ve_ty {T : String} {x : Str} (hg : Gl X x) (hm : X.mg x = none) (hv : bootBuiltins x = some (.type T)) (hn : x ≠ "__name__" := by decide) (hd : (x == ("__debug__" : Str)) = false := by decide) : VE X b W (.Name x pos) (vC (.raw (.ty T))) :=
  ve_raw (pe_bltn hg hm hv rfl hn hd)
end
end VL
set_option Elab.async false
set_option linter.all false
set_option maxRecDepth 100000
set_option maxHeartbeats 4000000
namespace VL
open PySem PySem.Spec PyProof.Rows L2
/-- VOk in a running def: H0 the heap at its entry (or a loop's), M what may have been written since -/
structure FOk (b : Bg) (H0 : Hp) (M Zo Z : Addr → Prop) (σ : L2.St) (H : Hp) (ρ : VEnv) : Prop where
  v : VOk b Zo Z σ H ρ
  ext : ∀ a o, H0 a = some o → ¬ b.B a → ¬ M a → H a = some o
  fr : ∀ (i : Nat) (d : D) (a : Addr), ρ[i]? = some (.own d) → σ[i]? = some (some (.ref a)) → M a ∨ H0 a = none
/-- what a def may give back: a value, a new object that nobody else holds, a new list that begins with such an object -/
inductive Rt where
  | val (d : D)
  | nw (d : D)
  | nwL (d : D) (ds : List D)
def RtOk (b : Bg) (H0 : Hp) (M Zo Z : Addr → Prop) (H : Hp) (v : V) : Rt → Prop
  | .val d => Rp b Z H v d
  | .nw d => ∃ x, v = .ref x ∧ (M x ∨ H0 x = none) ∧ ¬ Zo x ∧ Ow b (fun c => Zo c ∨ c = x) H x d
  | .nwL d ds => ∃ l x ws, v = .ref l ∧ H l = some (.lst (.ref x :: ws)) ∧ (M l ∨ H0 l = none) ∧ ¬ Zo l ∧ l ≠ x ∧ (M x ∨ H0 x = none) ∧ ¬ Zo x ∧ Ow b (fun c => (Zo c ∨ c = x) ∨ c = l) H x d ∧ Rps b (fun c => (Zo c ∨ c = x) ∨ c = l) H ws ds
structure VEnds where
  nx : VEnv → Prop
  rt : D → Prop
  bk : VEnv → Prop
  ct : VEnv → Prop
  ex : VEnv → Er → Prop
  ro : VEnv → Rt → Prop := fun _ _ => False
abbrev VS := VEnv → VEnds → Prop
/-- what the ends of a reading mean over the heap -/
structure Lk (b : Bg) (W : WX) (H0 : Hp) (M Zo : Addr → Prop) (De : VEnds) (D : Ends) : Prop where
  nx : ∀ Z σ H ρ, FOk b H0 M Zo Z σ H ρ → De.nx ρ → D.nx σ H
  rt : ∀ v H d, (∀ a o, H0 a = some o → ¬ b.B a → ¬ M a → H a = some o) → b.G H → Rp b Zo H v d → De.rt d → D.rt v H
  bk : ∀ Z σ H ρ, FOk b H0 M Zo Z σ H ρ → De.bk ρ → D.bk σ H
  ct : ∀ Z σ H ρ, FOk b H0 M Zo Z σ H ρ → De.ct ρ → D.ct σ H
  ex : ∀ c x Z σ H ρ er, FOk b H0 M Zo Z σ H ρ → ErRp b Z H c x er → De.ex ρ er → W c x σ H
  ro : ∀ v Z σ H ρ r, FOk b H0 M Zo Z σ H ρ → RtOk b H0 M Zo Z H v r → De.ro ρ r → D.rt v H
def LS (b : Bg) (W : WX) (t : VS) : TS := fun D σ H => ∃ H0 M Zo Z ρ De, FOk b H0 M Zo Z σ H ρ ∧ t ρ De ∧ Lk b W H0 M Zo De D
def VSt (X : Cx) (b : Bg) (W : WX) (st : Stmt) (t : VS) : Prop := PS X st (LS b W t)
def VSs (X : Cx) (b : Bg) (W : WX) (st : List Stmt) (t : VS) : Prop := PSs X st (LS b W t)
section
variable {b : Bg} {W : WX} {H0 : Hp} {M Zo Z : Addr → Prop} {σ : L2.St} {H H' : Hp} {ρ : VEnv} {De : VEnds} {Dn : Ends}
theorem FOk.ex (f : FOk b H0 M Zo Z σ H ρ) (x : Ex b H H') (g : b.G H') : FOk b H0 M Zo Z σ H' ρ := ⟨f.v.ex x g, fun a o e nb nm => x a o (f.ext a o e nb nm) nb, f.fr⟩
/-- the error link of an expression -/
theorem Lk.er (l : Lk b W H0 M Zo De Dn) (f : FOk b H0 M Zo Z σ H ρ) : ∀ c x H' er, Ex b H H' → b.G H' → ErRp b Z H' c x er → De.ex ρ er → W c x σ H' := fun c x H' er x1 g1 r q => l.ex c x Z σ H' ρ er (f.ex x1 g1) r q
/-- the owned addresses but slot i's -/
def zBut (Zo : Addr → Prop) (σ : L2.St) (ρ : VEnv) (i : Nat) : Addr → Prop := fun a => Zo a ∨ ∃ (j : Nat) (e : D), j ≠ i ∧ ρ[j]? = some (.own e) ∧ σ[j]? = some (some (.ref a))
theorem VOk.but (v : VOk b Zo Z σ H ρ) (i : Nat) : ∀ a, zBut Zo σ ρ i a → Z a := fun a z => by
  rcases z with z | ⟨j, e, _, h1, h2⟩
  · exact v.zo a z
  · obtain ⟨c, h3, h4, _⟩ := v.own j e h1
    rw [h2] at h3; cases h3; exact h4
theorem FOk.set (f : FOk b H0 M Zo Z σ H ρ) {i : Nat} {u : V} {d : D} (hi : i < ρ.length) (r : Rp b Z H u d) : FOk b H0 M Zo (zBut Zo σ ρ i) (σ.set i (some u)) H (ρ.set i (.shr d)) := by
  have v := f.v
  have sub := v.but i
  have hiσ : i < σ.length := by rw [← v.len]; exact hi
  have ow : ∀ {j : Nat} {e : D}, (ρ.set i (.shr d))[j]? = some (.own e) → j ≠ i ∧ ρ[j]? = some (.own e) := fun {j e} h => by
    by_cases hj : j = i
    · subst hj
      rw [List.getElem?_set_self hi] at h; cases h
    · rw [List.getElem?_set_ne (Ne.symm hj)] at h
      exact ⟨hj, h⟩
  refine ⟨⟨v.g, v.zb, fun a z => .inl z, fun a z => v.dom a (sub a z), fun a z => ?_, fun j e h => ?_, fun j k e e2 a h1 h2 h3 h4 => ?_, fun j e h => ?_, by simpa using v.len⟩, f.ext, fun j e a h1 h2 => ?_⟩
  · rcases z with z | ⟨j, e, hj, h1, h2⟩
    · exact .inl z
    · exact .inr ⟨j, e, by rw [List.getElem?_set_ne (Ne.symm hj)]; exact h1, by rw [List.getElem?_set_ne (Ne.symm hj)]; exact h2⟩
  · obtain ⟨hj, h⟩ := ow h
    obtain ⟨a, h1, h2, h3, h4⟩ := v.own j e h
    exact ⟨a, by rw [List.getElem?_set_ne (Ne.symm hj)]; exact h1, .inr ⟨j, e, hj, h, h1⟩, h3, h4.mono (fun c z => .inl (sub c z)) (fun _ _ e _ => e) fun _ e => e⟩
  · obtain ⟨hj, h1⟩ := ow h1
    obtain ⟨hk, h2⟩ := ow h2
    rw [List.getElem?_set_ne (Ne.symm hj)] at h3
    rw [List.getElem?_set_ne (Ne.symm hk)] at h4
    exact v.inj j k e e2 a h1 h2 h3 h4
  · by_cases hj : j = i
    · subst hj
      rw [List.getElem?_set_self hi] at h; cases h
      exact ⟨u, List.getElem?_set_self hiσ, r.mono (fun c z => .inl (sub c z)) fun _ _ e _ => e⟩
    · rw [List.getElem?_set_ne (Ne.symm hj)] at h
      obtain ⟨w, h1, h2⟩ := v.shr j e h
      exact ⟨w, by rw [List.getElem?_set_ne (Ne.symm hj)]; exact h1, h2.mono (fun c z => .inl (sub c z)) fun _ _ e _ => e⟩
  · obtain ⟨hj, h1⟩ := ow h1
    rw [List.getElem?_set_ne (Ne.symm hj)] at h2
    exact f.fr j e a h1 h2
/-- a new object given to slot i -/
theorem FOk.setN (f : FOk b H0 M Zo Z σ H ρ) {i : Nat} {u : V} {d : D} (hi : i < ρ.length) (x : Ex b H H') (g : b.G H') (r : Rn b Z H H' u d) : ∃ Z', FOk b H0 M Zo Z' (σ.set i (some u)) H' (ρ.set i (.own d)) := by
  obtain ⟨a, rfl, hn, o⟩ := r
  have v := f.v
  have v' := v.ex x g
  have sub := v.but i
  have nz : ¬ Z a := v.fresh hn
  have hiσ : i < σ.length := by rw [← v.len]; exact hi
  have hz : ∀ c, (zBut Zo σ ρ i c ∨ c = a) → Z c ∨ H c = none := fun c z => z.elim (fun z => .inl (sub c z)) fun e => .inr (by rw [e]; exact hn)
  have ow : ∀ {j : Nat} {e : D}, (ρ.set i (.own d))[j]? = some (.own e) → (j = i ∧ e = d) ∨ (j ≠ i ∧ ρ[j]? = some (.own e)) := fun {j e} h => by
    by_cases hj : j = i
    · subst hj
      rw [List.getElem?_set_self hi] at h; cases h; exact .inl ⟨rfl, rfl⟩
    · rw [List.getElem?_set_ne (Ne.symm hj)] at h
      exact .inr ⟨hj, h⟩
  have na : ∀ (j : Nat) (e : D) (c : Addr), ρ[j]? = some (.own e) → σ[j]? = some (some (.ref c)) → c ≠ a := fun j e c h1 h2 q => by
    obtain ⟨c', h3, h4, _⟩ := v.own j e h1
    rw [h2] at h3; cases h3; rw [q] at h4; exact nz h4
  refine ⟨fun c => zBut Zo σ ρ i c ∨ c = a, ⟨g, v.zb, fun c z => .inl (.inl z), fun c z => ?_, fun c z => ?_, fun j e h => ?_, fun j k e e2 c h1 h2 h3 h4 => ?_, fun j e h => ?_, by simpa using v.len⟩, fun c o e nb nm => x c o (f.ext c o e nb nm) nb, fun j e c h1 h2 => ?_⟩
  · rcases z with z | rfl
    · exact v'.dom c (sub c z)
    · obtain ⟨o', e⟩ := o.at
      rw [e]; simp
  · rcases z with (z | ⟨j, e, hj, h1, h2⟩) | rfl
    · exact .inl z
    · exact .inr ⟨j, e, by rw [List.getElem?_set_ne (Ne.symm hj)]; exact h1, by rw [List.getElem?_set_ne (Ne.symm hj)]; exact h2⟩
    · exact .inr ⟨i, d, List.getElem?_set_self hi, List.getElem?_set_self hiσ⟩
  · rcases ow h with ⟨rfl, rfl⟩ | ⟨hj, h⟩
    · exact ⟨a, List.getElem?_set_self hiσ, .inr rfl, fun z => nz (v.zo _ z), o.mono (fun c z => .inl (z.imp (sub c) id)) (fun _ _ e _ => e) fun _ e => e⟩
    · obtain ⟨c, h1, h2, h3, h4⟩ := v.own j e h
      exact ⟨c, by rw [List.getElem?_set_ne (Ne.symm hj)]; exact h1, .inl (.inr ⟨j, e, hj, h, h1⟩), h3, h4.mono hz (v.keep x) fun o q => x c o q fun z => h3 (v.zb c z)⟩
  · rcases ow h1 with ⟨q1, _⟩ | ⟨hj, p1⟩
    · rcases ow h2 with ⟨q2, _⟩ | ⟨hk, p2⟩
      · rw [q1, q2]
      · rw [q1, List.getElem?_set_self hiσ] at h3; cases h3
        rw [List.getElem?_set_ne (Ne.symm hk)] at h4
        exact absurd rfl (na k e2 _ p2 h4)
    · rw [List.getElem?_set_ne (Ne.symm hj)] at h3
      rcases ow h2 with ⟨q2, _⟩ | ⟨hk, p2⟩
      · rw [q2, List.getElem?_set_self hiσ] at h4; cases h4
        exact absurd rfl (na j e _ p1 h3)
      · rw [List.getElem?_set_ne (Ne.symm hk)] at h4
        exact v.inj j k e e2 c p1 p2 h3 h4
  · by_cases hj : j = i
    · subst hj
      rw [List.getElem?_set_self hi] at h; cases h
    · rw [List.getElem?_set_ne (Ne.symm hj)] at h
      obtain ⟨w, h1, h2⟩ := v.shr j e h
      exact ⟨w, by rw [List.getElem?_set_ne (Ne.symm hj)]; exact h1, h2.mono hz (v.keep x)⟩
  · rcases ow h1 with ⟨rfl, rfl⟩ | ⟨hj, h1⟩
    · rw [List.getElem?_set_self hiσ] at h2; cases h2
      cases q : H0 a with
      | none => exact .inr rfl
      | some u0 =>
        by_cases hb : b.B a
        · exact absurd hn (b.dom _ _ v.g hb)
        · by_cases hm : M a
          · exact .inl hm
          · have := f.ext a u0 q hb hm
            rw [hn] at this; cases this
    · rw [List.getElem?_set_ne (Ne.symm hj)] at h2
      exact f.fr j e c h1 h2
/-- slot i's object is changed -/
theorem FOk.mut (f : FOk b H0 M Zo Z σ H ρ) {i : Nat} {a : Addr} {d d' : D} {o : HO} (hr : ρ[i]? = some (.own d)) (hs : σ[i]? = some (some (.ref a))) (new : Ow b Z (upd H a o) a d') : FOk b H0 M Zo Z σ (upd H a o) (ρ.set i (.own d')) := by
  have v := f.v
  obtain ⟨c, h1, hz, hzo, how⟩ := v.own i d hr
  rw [hs] at h1; cases h1
  have hi : i < ρ.length := (List.getElem?_eq_some_iff.mp hr).1
  have nb : ¬ b.B a := fun z => hzo (v.zb a z)
  have keep : ∀ c o', H c = some o' → ¬ Z c → upd H a o c = some o' := fun c o' e n => by
    rw [upd_ne (fun q => n (by rw [q]; exact hz))]
    exact e
  have ow : ∀ {j : Nat} {e : D}, (ρ.set i (.own d'))[j]? = some (.own e) → (j = i ∧ e = d') ∨ (j ≠ i ∧ ρ[j]? = some (.own e)) := fun {j e} h => by
    by_cases hj : j = i
    · subst hj
      rw [List.getElem?_set_self hi] at h; cases h; exact .inl ⟨rfl, rfl⟩
    · rw [List.getElem?_set_ne (Ne.symm hj)] at h
      exact .inr ⟨hj, h⟩
  have old : ∀ {j : Nat} {e : D}, (ρ.set i (.own d'))[j]? = some (.own e) → ∃ e', ρ[j]? = some (.own e') := fun {j e} h => by
    rcases ow h with ⟨rfl, rfl⟩ | ⟨_, h⟩
    · exact ⟨d, hr⟩
    · exact ⟨e, h⟩
  refine ⟨⟨b.loc H _ (fun c hc => upd_ne fun q => nb (by rw [← q]; exact hc)) (fun c o ho e => by rw [upd_ne (fun q => how.noext o ho (by rw [← q]; exact e))]; exact e) v.g, v.zb, v.zo, fun c z => ?_, fun c z => ?_, fun j e h => ?_, fun j k e e2 c h1 h2 h3 h4 => ?_, fun j e h => ?_, by simpa using v.len⟩, fun c o' e nb' nm => ?_, fun j e c h1 h2 => ?_⟩
  · by_cases q : c = a
    · rw [q, upd_same]; simp
    · rw [upd_ne q]; exact v.dom c z
  · rcases v.zi c z with z | ⟨j, e, h1, h2⟩
    · exact .inl z
    · by_cases hj : j = i
      · subst hj
        exact .inr ⟨j, d', List.getElem?_set_self hi, h2⟩
      · exact .inr ⟨j, e, by rw [List.getElem?_set_ne (Ne.symm hj)]; exact h1, h2⟩
  · rcases ow h with ⟨rfl, rfl⟩ | ⟨hj, h⟩
    · exact ⟨a, hs, hz, hzo, new⟩
    · obtain ⟨c, h1, h2, h3, h4⟩ := v.own j e h
      have hca : c ≠ a := fun q => hj (v.inj j i e d a h hr (by rw [← q]; exact h1) hs)
      exact ⟨c, h1, h2, h3, h4.mono (fun _ z => .inl z) keep fun o' q => by rw [upd_ne hca]; exact q⟩
  · obtain ⟨e', h1⟩ := old h1
    obtain ⟨e2', h2⟩ := old h2
    exact v.inj j k e' e2' c h1 h2 h3 h4
  · by_cases hj : j = i
    · subst hj
      rw [List.getElem?_set_self hi] at h; cases h
    · rw [List.getElem?_set_ne (Ne.symm hj)] at h
      obtain ⟨w, h1, h2⟩ := v.shr j e h
      exact ⟨w, h1, h2.mono (fun _ z => .inl z) keep⟩
  · have h := f.ext c o' e nb' nm
    by_cases q : c = a
    · subst q
      rcases f.fr i d c hr hs with z | z
      · exact absurd z nm
      · rw [z] at e; cases e
    · rw [upd_ne q]; exact h
  · obtain ⟨e', h1⟩ := old h1
    exact f.fr j e' c h1 h2
/-- slot i's object is shared from now on -/
@[simp] def frz (i : Nat) (ρ : VEnv) : VEnv := match ρ[i]? with
  | some (.own d) => ρ.set i (.shr d)
  | _ => ρ
theorem FOk.frz (f : FOk b H0 M Zo Z σ H ρ) (i : Nat) : ∃ Z', FOk b H0 M Zo Z' σ H (VL.frz i ρ) := by
  unfold VL.frz
  cases hr : ρ[i]? with
  | none => exact ⟨Z, f⟩
  | some s =>
    cases s with
    | un => exact ⟨Z, f⟩
    | shr d => exact ⟨Z, f⟩
    | own d =>
      have v := f.v
      obtain ⟨a, hs, hz, hzo, ho⟩ := v.own i d hr
      have hi : i < ρ.length := (List.getElem?_eq_some_iff.mp hr).1
      have sub := v.but i
      have na : ¬ zBut Zo σ ρ i a := fun z => by
        rcases z with z | ⟨j, e, hj, h1, h2⟩
        · exact hzo z
        · exact hj (v.inj j i e d a h1 hr h2 hs)
      have rp : Rp b (zBut Zo σ ρ i) H (.ref a) d := ho.rp sub na
      have eσ : σ.set i (some (.ref a)) = σ := by
        apply List.ext_getElem?
        intro j
        by_cases hj : j = i
        · subst hj
          rw [List.getElem?_set_self (List.getElem?_eq_some_iff.mp hs).1, hs]
        · rw [List.getElem?_set_ne (Ne.symm hj)]
      refine ⟨zBut Zo σ ρ i, ?_⟩
      -- as FOk.set, but the value is no longer owned
      have ow : ∀ {j : Nat} {e : D}, (ρ.set i (.shr d))[j]? = some (.own e) → j ≠ i ∧ ρ[j]? = some (.own e) := fun {j e} h => by
        by_cases hj : j = i
        · subst hj
          rw [List.getElem?_set_self hi] at h; cases h
        · rw [List.getElem?_set_ne (Ne.symm hj)] at h
          exact ⟨hj, h⟩
      refine ⟨⟨v.g, v.zb, fun a z => .inl z, fun a z => v.dom a (sub a z), fun c z => ?_, fun j e h => ?_, fun j k e e2 c h1 h2 h3 h4 => ?_, fun j e h => ?_, by simpa using v.len⟩, f.ext, fun j e c h1 h2 => f.fr j e c (ow h1).2 h2⟩
      · rcases z with z | ⟨j, e, hj, h1, h2⟩
        · exact .inl z
        · exact .inr ⟨j, e, by rw [List.getElem?_set_ne (Ne.symm hj)]; exact h1, h2⟩
      · obtain ⟨hj, h⟩ := ow h
        obtain ⟨c, h1, h2, h3, h4⟩ := v.own j e h
        exact ⟨c, h1, .inr ⟨j, e, hj, h, h1⟩, h3, h4.mono (fun c z => .inl (sub c z)) (fun _ _ e _ => e) fun _ e => e⟩
      · exact v.inj j k e e2 c (ow h1).2 (ow h2).2 h3 h4
      · by_cases hj : j = i
        · subst hj
          rw [List.getElem?_set_self hi] at h; cases h
          exact ⟨.ref a, hs, rp⟩
        · rw [List.getElem?_set_ne (Ne.symm hj)] at h
          obtain ⟨w, h1, h2⟩ := v.shr j e h
          exact ⟨w, h1, h2.mono (fun c z => .inl (sub c z)) fun _ _ e _ => e⟩
/-- a value that may leave -/
theorem FOk.out (f : FOk b H0 M Zo Z σ H ρ) {u : V} {d : D} (r : Rp b Z H u d) : Rp b Zo H u d := r.mono (fun c z => .inl (f.v.zo c z)) fun _ _ e _ => e
end
/-! ### statements -/
section
variable {X : Cx} {b : Bg} {W : WX} {e e1 e2 : Expr} {st : Stmt} {sts : List Stmt} {t t1 t2 : VT} {u : VA} {g h : VS} {pos pos' : Pos} {i : Nat} {x : Str}
@[simp] def sNext : VS := fun ρ De => De.nx ρ
@[simp] def sSeq (g h : VS) : VS := fun ρ De => g ρ { De with nx := fun ρ' => h ρ' De }
theorem vs_nil : VSs X b W [] sNext := pss_mono pss_nil fun D σ H ⟨H0, M, Zo, Z, ρ, De, f, q, l⟩ => l.nx Z σ H ρ f q
theorem vs_cons (h1 : VSt X b W st g) (h2 : VSs X b W sts h) : VSs X b W (st :: sts) (sSeq g h) :=
  pss_mono (pss_cons h1 h2) fun D σ H ⟨H0, M, Zo, Z, ρ, De, f, q, l⟩ => ⟨H0, M, Zo, Z, ρ, _, f, q, ⟨fun Z' σ' H' ρ' f' q' => ⟨H0, M, Zo, Z', ρ', De, f', q', l⟩, l.rt, l.bk, l.ct, l.ex, l.ro⟩⟩
theorem vs_one (h1 : VSt X b W st g) : VSs X b W [st] g := pss_mono (pss_one h1) fun _ _ _ q => q
/-- from here on slot i's object may be shared -/
@[simp] def sFrz (i : Nat) (g : VS) : VS := fun ρ De => g (frz i ρ) De
theorem vs_frz (i : Nat) (h : VSt X b W st g) : VSt X b W st (sFrz i g) := ps_mono h fun D σ H ⟨H0, M, Zo, Z, ρ, De, f, q, l⟩ => by
  obtain ⟨Z', f'⟩ := f.frz i
  exact ⟨H0, M, Zo, Z', _, De, f', q, l⟩
@[simp] def sBrk : VS := fun ρ De => De.bk ρ
@[simp] def sCnt : VS := fun ρ De => De.ct ρ
/-- name = value -/
@[simp] def sSet (i : Nat) (t : VT) : VS := fun ρ De => i < ρ.length ∧ t ρ (fun d => De.nx (ρ.set i (.shr d))) (De.ex ρ)
@[simp] def sSetN (i : Nat) (t : VT) : VS := fun ρ De => i < ρ.length ∧ t ρ (fun d => De.nx (ρ.set i (.own d))) (De.ex ρ)
theorem vs_set {te : TE} (hp : PS X (.Assign [.Name x pos'] e pos) (tAsg te (gName i))) (hm : ∀ σ H Q, LE b W (RE b) t σ H Q → te σ H Q) : VSt X b W (.Assign [.Name x pos'] e pos) (sSet i t) :=
  ps_mono hp fun D σ H ⟨H0, M, Zo, Z, ρ, De, f, ⟨hi, q⟩, l⟩ => hm σ H _ ⟨Zo, Z, ρ, _, _, f.v, q, fun v H' d x g r q' => l.nx _ _ H' _ ((f.ex x g).set hi r) q', l.er f⟩
theorem vs_setN {te : TE} (hp : PS X (.Assign [.Name x pos'] e pos) (tAsg te (gName i))) (hm : ∀ σ H Q, LE b W (RN b) t σ H Q → te σ H Q) : VSt X b W (.Assign [.Name x pos'] e pos) (sSetN i t) :=
  ps_mono hp fun D σ H ⟨H0, M, Zo, Z, ρ, De, f, ⟨hi, q⟩, l⟩ => hm σ H _ ⟨Zo, Z, ρ, _, _, f.v, q, fun v H' d x g r q' => by
    obtain ⟨Z', f'⟩ := f.setN hi x g r
    exact l.nx _ _ H' _ f' q', l.er f⟩
theorem vs_asg (hN : X.N.Nodup) (hi : X.N[i]? = some x) (hx : Loc X.env.scope x) (he : VE X b W e t) (hs : swapsWith e (some (.Name x pos')) pos.line X.env = pure false := by rfl)
    (hf : X.fn x = true ∨ X.env.scope.names.lookup x = some .local := by first | exact .inl rfl | exact .inr rfl | assumption) : VSt X b W (.Assign [.Name x pos'] e pos) (sSet i t) :=
  vs_set (ps_set hN hi hx he hs hf) fun _ _ _ q => q
theorem vs_asgN (hN : X.N.Nodup) (hi : X.N[i]? = some x) (hx : Loc X.env.scope x) (he : VN X b W e t) (hs : swapsWith e (some (.Name x pos')) pos.line X.env = pure false := by rfl)
    (hf : X.fn x = true ∨ X.env.scope.names.lookup x = some .local := by first | exact .inl rfl | exact .inr rfl | assumption) : VSt X b W (.Assign [.Name x pos'] e pos) (sSetN i t) :=
  vs_setN (ps_set hN hi hx he hs hf) fun _ _ _ q => q
@[simp] def sExpr (t : VT) : VS := fun ρ De => t ρ (fun _ => De.nx ρ) (De.ex ρ)
theorem vs_expr (he : VE X b W e t) (hs : swapsWith e none pos.line X.env = pure false := by rfl) : VSt X b W (.Expr e pos) (sExpr t) :=
  ps_mono (ps_expr he hs) fun D σ H ⟨H0, M, Zo, Z, ρ, De, f, q, l⟩ => ⟨Zo, Z, ρ, _, _, f.v, q, fun v H' d x g r q' => l.nx _ _ H' _ (f.ex x g) q', l.er f⟩
@[simp] def sRet (t : VT) : VS := fun ρ De => t ρ De.rt (De.ex ρ)
theorem vs_ret (he : VE X b W e t) : VSt X b W (.Return (some e) pos) (sRet t) :=
  ps_mono (ps_ret he) fun D σ H ⟨H0, M, Zo, Z, ρ, De, f, q, l⟩ => ⟨Zo, Z, ρ, _, _, f.v, q, fun v H' d x g r q' => l.rt v H' d (f.ex x g).ext g ((f.ex x g).out r) q', l.er f⟩
@[simp] def sRetN : VS := fun _ De => De.rt (.py .none)
@[simp] def sIf (c : VB) (g h : VS) : VS := fun ρ De => c ρ (fun k => if k = true then g ρ De else h ρ De) (De.ex ρ)
theorem vs_if {c : Expr} {tc : VB} {xs ys : List Stmt} (hc : VTe X b W c tc) (h1 : VSs X b W xs g) (h2 : VSs X b W ys h) : VSt X b W (.If c xs ys pos) (sIf tc g h) :=
  ps_mono (ps_if hc h1 h2) fun D σ H ⟨H0, M, Zo, Z, ρ, De, f, q, l⟩ => ⟨Zo, Z, ρ, _, _, f.v, q, fun k H' x g q' => by
    cases k with
    | true => exact ⟨H0, M, Zo, Z, ρ, De, f.ex x g, q', l⟩
    | false => exact ⟨H0, M, Zo, Z, ρ, De, f.ex x g, q', l⟩, l.er f⟩
/-- name op= value -/
@[simp] def sAug (i : Nat) (g : D → D → (D → Prop) → Prop) (t : VT) : VS := fun ρ De => ∃ d, ρ[i]? = some (.shr d) ∧ t ρ (fun y => g d y fun z => De.nx (ρ.set i (.shr z))) (De.ex ρ)
/-! ### loops -/
/-- what an iterator gives: the items, one a turn, while what stood at H outside of Y stands -/
structure Wk (b : Bg) (Y Z : Addr → Prop) (H : Hp) (J : It) (ds : List D) : Prop where
  go : ∀ (k : Nat) (d : D) (H2 : Hp), ds[k]? = some d → (∀ a o, H a = some o → ¬ Y a → H2 a = some o) → b.G H2 → J.go k H2 ∧ ∀ v H3, J.yld k H2 v H3 → Ex b H2 H3 ∧ b.G H3 ∧ ∀ Z2 : Addr → Prop, (∀ a, Z2 a → Z a ∨ H a = none) → (∀ a, Z2 a → H2 a ≠ none) → Rp b Z2 H3 v d
  stop : ∀ (k : Nat) (H2 : Hp), ds.length = k → (∀ a o, H a = some o → ¬ Y a → H2 a = some o) → J.stop k H2
abbrev VIt := VEnv → (List D → Prop) → (Er → Prop) → Prop
def LI (b : Bg) (W : WX) (Y : (Addr → Prop) → Addr → Prop) (t : VIt) : TI := fun σ H R => ∃ Zo Z ρ Qd Ed, VOk b Zo Z σ H ρ ∧ t ρ Qd Ed ∧
  (∀ J H' ds, Ex b H H' → b.G H' → Wk b (Y Z) Z H' J ds → Qd ds → R J H') ∧ ∀ c x H' er, Ex b H H' → b.G H' → ErRp b Z H' c x er → Ed er → W c x σ H'
/-- for a loop: what is owned may change; for a block: nothing but the zone -/
def VI (X : Cx) (b : Bg) (W : WX) (tg iter : Expr) (t : VIt) : Prop := PI X tg iter (LI b W (fun Z => Z) t)
def VIb (X : Cx) (b : Bg) (W : WX) (tg iter : Expr) (t : VIt) : Prop := PI X tg iter (LI b W (fun _ => b.B) t)
/-- a target -/
abbrev VTg := D → VEnv → (VEnv → Prop) → Prop
abbrev VTgs := List D → VEnv → (VEnv → Prop) → Prop
/-- the slots but those at js are as they were -/
structure Same (js : List Nat) (σ σ' : L2.St) (ρ ρ' : VEnv) : Prop where
  len : σ'.length = σ.length
  out : ∀ j, j ∉ js → σ'[j]? = σ[j]?
  env : ∀ j, j ∉ js → ρ'[j]? = ρ[j]?
theorem Same.refl {js : List Nat} {σ : L2.St} {ρ : VEnv} : Same js σ σ ρ ρ := ⟨rfl, fun _ _ => rfl, fun _ _ => rfl⟩
theorem Same.trans {js ks : List Nat} {σ σ1 σ2 : L2.St} {ρ ρ1 ρ2 : VEnv} (h : Same js σ σ1 ρ ρ1) (k : Same ks σ1 σ2 ρ1 ρ2) : Same (js ++ ks) σ σ2 ρ ρ2 :=
  ⟨k.len.trans h.len, fun j hj => (k.out j fun m => hj (List.mem_append_right _ m)).trans (h.out j fun m => hj (List.mem_append_left _ m)), fun j hj => (k.env j fun m => hj (List.mem_append_right _ m)).trans (h.env j fun m => hj (List.mem_append_left _ m))⟩
def LG (b : Bg) (js : List Nat) (t : VTg) : TG := fun v σ H Q => ∃ H0 M Zo Z ρ d Qd, FOk b H0 M Zo Z σ H ρ ∧ Rp b Z H v d ∧ t d ρ Qd ∧ ∀ Z' σ' ρ', (∀ a, Z' a → Z a) → Same js σ σ' ρ ρ' → FOk b H0 M Zo Z' σ' H ρ' → Qd ρ' → Q σ' H
def VG (X : Cx) (b : Bg) (tg : Expr) (js : List Nat) (t : VTg) : Prop := PG X tg (LG b js t)
theorem pg_mono {e : Expr} {t t' : TG} (h : PG X e t) (m : ∀ v σ H Q, t' v σ H Q → t v σ H Q) : PG X e t' := ⟨fun pins s σ H v u Q I r q => h.run pins s σ H v u Q I r (m v σ H Q q)⟩
@[simp] def tgName (i : Nat) : VTg := fun d ρ Q => i < ρ.length ∧ Q (ρ.set i (.shr d))
theorem vg_name (hN : X.N.Nodup) (hi : X.N[i]? = some x) (hx : Loc X.env.scope x) (hf : X.fn x = true ∨ X.env.scope.names.lookup x = some .local := by first | exact .inl rfl | exact .inr rfl | assumption) : VG X b (.Name x pos) [i] (tgName i) :=
  pg_mono (pg_name hN hi hx hf) fun v σ H Q ⟨H0, M, Zo, Z, ρ, d, Qd, f, r, ⟨hl, q⟩, k⟩ => k _ _ _ (f.v.but i) ⟨List.length_set .., fun j hj => List.getElem?_set_ne fun e => hj (by rw [e]; exact List.mem_singleton.mpr rfl), fun j hj => List.getElem?_set_ne fun e => hj (by rw [e]; exact List.mem_singleton.mpr rfl)⟩ (f.set hl r) q
/-- several targets -/
def LGs (b : Bg) (js : List Nat) (t : VTgs) : TGs := fun v σ H Q => ∃ H0 M Zo Z ρ d Qd, FOk b H0 M Zo Z σ H ρ ∧ Rps b Z H v d ∧ t d ρ Qd ∧ ∀ Z' σ' ρ', (∀ a, Z' a → Z a) → Same js σ σ' ρ ρ' → FOk b H0 M Zo Z' σ' H ρ' → Qd ρ' → Q σ' H
def VGs (X : Cx) (b : Bg) (tg : List Expr) (js : List Nat) (t : VTgs) : Prop := PGs X tg (LGs b js t)
theorem pgs_mono {e : List Expr} {t t' : TGs} (h : PGs X e t) (m : ∀ v σ H Q, t' v σ H Q → t v σ H Q) : PGs X e t' := ⟨fun pins s σ H v u Q I r q => h.run pins s σ H v u Q I r (m v σ H Q q)⟩
@[simp] def tgNil : VTgs
  | [], ρ, Q => Q ρ
  | _, _, _ => False
@[simp] def tgCons (t : VTg) (u : VTgs) : VTgs
  | d :: r, ρ, Q => t d ρ fun ρ' => u r ρ' Q
  | _, _, _ => False
theorem vgs_nil : VGs X b [] [] tgNil := pgs_mono pgs_nil fun v σ H Q ⟨H0, M, Zo, Z, ρ, d, Qd, f, r, q, k⟩ => by
  cases r with
  | nil => exact ⟨rfl, k Z σ ρ (fun _ z => z) .refl f q⟩
  | cons _ _ => exact False.elim q
theorem vgs_cons {tg : Expr} {tgs : List Expr} {js ks : List Nat} {t : VTg} {u : VTgs} (h1 : VG X b tg js t) (h2 : VGs X b tgs ks u)
    (hs : (assignEach (tg :: tgs) X.env).map (·.2) = assign tg X.env :: (assignEach tgs X.env).map (·.2) := by rfl) : VGs X b (tg :: tgs) (js ++ ks) (tgCons t u) :=
  pgs_mono (pgs_cons h1 h2 hs) fun v σ H Q ⟨H0, M, Zo, Z, ρ, d, Qd, f, r, q, k⟩ => by
    cases r with
    | nil => exact False.elim q
    | @cons _ d1 _ dr r1 rr => exact ⟨_, _, rfl, H0, M, Zo, Z, ρ, d1, _, f, r1, q, fun Z' σ' ρ' sub sm f' q' => ⟨H0, M, Zo, Z', ρ', dr, Qd, f', rr.mono (fun a z => .inl (sub a z)) (fun _ _ e _ => e), q', fun Z2 σ2 ρ2 sub2 sm2 f2 q2 => k Z2 σ2 ρ2 (fun a z => sub a (sub2 a z)) (sm.trans sm2) f2 q2⟩⟩
@[simp] def tgTup (n : Nat) (u : VTgs) : VTg
  | .py (.tuple ps), ρ, Q => ps.length = n ∧ u (ps.map D.py) ρ Q
  | _, _, _ => False
theorem tgTup_ex {n : Nat} {u : VTgs} : ∀ {d : D} {ρ : VEnv} {Q : VEnv → Prop}, tgTup n u d ρ Q → ∃ ps, d = .py (.tuple ps) ∧ ps.length = n ∧ u (ps.map D.py) ρ Q
  | .py (.tuple ps), _, _, h => ⟨ps, rfl, h⟩
theorem vg_tup {tgs : List Expr} {k n : Nat} {js : List Nat} {u : VTgs} (hc : X.calm = true) (h : VGs X b tgs js u) (hn : (assignEach tgs X.env).length = n := by rfl) (hst : (assignEach tgs X.env).findIdx? (·.1) = none := by rfl) : VG X b (.Tuple tgs k pos) js (tgTup n u) :=
  pg_mono (pg_tup hc h hn hst) fun v σ H Q ⟨H0, M, Zo, Z, ρ, d, Qd, f, r, hh, k⟩ => by
    obtain ⟨ps, e, hl, q⟩ := tgTup_ex hh
    subst e
    obtain ⟨a, o, xs, rfl, ha, ho, na, qa⟩ := Rb.tuple (b := b) (.inl r)
    exact ⟨a, xs, rfl, SqT.th ha, by rw [qa.length]; exact hl, H0, M, Zo, Z, ρ, _, Qd, f, qa.to, q, k⟩
/-- target = value -/
@[simp] def sAsg (t : VT) (g : VTg) : VS := fun ρ De => t ρ (fun d => g d ρ De.nx) (De.ex ρ)
theorem vs_asgT {tg : Expr} {js : List Nat} {g : VTg} (he : VE X b W e t) (hg : VG X b tg js g) (hs : swapsWithSole [tg] e pos.line X.env = pure false := by rfl) (hw : swappedStores [tg] e X.env = pure none := by rfl)
    (h1 : (assignEach [tg] X.env).map (·.2) = [assign tg X.env] := by rfl) : VSt X b W (.Assign [tg] e pos) (sAsg t g) :=
  ps_mono (ps_asg he hg hs hw h1) fun D σ H ⟨H0, M, Zo, Z, ρ, De, f, q, l⟩ => ⟨Zo, Z, ρ, _, _, f.v, q, fun v H' d x g r q' =>
    ⟨H0, M, Zo, Z, ρ, d, _, f.ex x g, r, q', fun Z' σ' ρ' _ _ f' q2 => l.nx Z' σ' H' ρ' f' q2⟩, l.er f⟩
end
end VL
set_option Elab.async false
set_option linter.all false
set_option maxRecDepth 100000
set_option maxHeartbeats 4000000
namespace VL
open PySem PySem.Spec PyProof.Rows L2
/-! ### values some of which are new -/
inductive Rm (b : Bg) (Y : Addr → Prop) (H H' : Hp) : List V → List (Bool × D) → List Addr → Prop
  | nil : Rm b Y H H' [] [] []
  | sh {v : V} {d : D} {vs : List V} {ms : List (Bool × D)} {N : List Addr} : Rp b Y H' v d → Rm b Y H H' vs ms N → Rm b Y H H' (v :: vs) ((false, d) :: ms) N
  | nw {a : Addr} {d : D} {vs : List V} {ms : List (Bool × D)} {N : List Addr} : H a = none → a ∉ N → Ow b Y H' a d → Rm b Y H H' vs ms N → Rm b Y H H' (.ref a :: vs) ((true, d) :: ms) (a :: N)
abbrev VAm := VEnv → (List (Bool × D) → Prop) → (Er → Prop) → Prop
def LAm (b : Bg) (W : WX) (t : VAm) : TA := fun σ H Q => ∃ Zo Z ρ Qd Ed, VOk b Zo Z σ H ρ ∧ t ρ Qd Ed ∧
  (∀ vs H' ms N, Ex b H H' → b.G H' → Rm b (fun c => Z c ∨ c ∈ N) H H' vs ms N → Qd ms → Q vs H') ∧ ∀ c x H' er, Ex b H H' → b.G H' → ErRp b Z H' c x er → Ed er → W c x σ H'
def VMs (X : Cx) (b : Bg) (W : WX) (es : List Expr) (t : VAm) : Prop := PA X es (LAm b W t)
@[simp] def mNil : VAm := fun _ Q _ => Q []
@[simp] def mCons (k : Bool) (t : VT) (u : VAm) : VAm := fun ρ Q E => t ρ (fun d => u ρ (fun ds => Q ((k, d) :: ds)) E) E
section
variable {b : Bg} {Y Y' : Addr → Prop} {H H' H1 : Hp} {vs : List V} {ms : List (Bool × D)} {N : List Addr}
theorem Rm.sub (h : ∀ c, Y' c → Y c) : ∀ {vs : List V} {ms : List (Bool × D)} {N : List Addr}, Rm b Y H H' vs ms N → Rm b Y' H H' vs ms N
  | _, _, _, .nil => .nil
  | _, _, _, .sh r t => .sh (r.mono (fun c z => .inl (h c z)) fun _ _ e _ => e) (Rm.sub h t)
  | _, _, _, .nw hn hm o t => .nw hn hm (o.mono (fun c z => .inl (h c z)) (fun _ _ e _ => e) fun _ e => e) (Rm.sub h t)
theorem Rm.back (h : ∀ c, H1 c = none → H c = none) : ∀ {vs : List V} {ms : List (Bool × D)} {N : List Addr}, Rm b Y H1 H' vs ms N → Rm b Y H H' vs ms N
  | _, _, _, .nil => .nil
  | _, _, _, .sh r t => .sh r (Rm.back h t)
  | _, _, _, .nw hn hm o t => .nw (h _ hn) hm o (Rm.back h t)
theorem Rm.new : ∀ {vs : List V} {ms : List (Bool × D)} {N : List Addr}, Rm b Y H H' vs ms N → ∀ c ∈ N, H c = none ∧ H' c ≠ none
  | _, _, _, .nil, _, h => nomatch h
  | _, _, _, .sh _ t, c, h => Rm.new t c h
  | _, _, _, .nw hn _ o t, c, h => by
    rcases List.mem_cons.mp h with rfl | h
    · obtain ⟨u, e⟩ := o.at
      exact ⟨hn, by rw [e]; simp⟩
    · exact Rm.new t c h
theorem none_back (g : b.G H1) (x : Ex b H H1) (c : Addr) (h : H1 c = none) : H c = none := by
  cases q : H c with
  | none => rfl
  | some u =>
    by_cases hb : b.B c
    · exact absurd h (b.dom _ _ g hb)
    · rw [x c u q hb] at h; cases h
end
section
variable {b : Bg} {Zo Z : Addr → Prop} {σ : L2.St} {H H' : Hp} {ρ : VEnv}
/-- new addresses held apart by an outer one -/
theorem VOk.many (v : VOk b Zo Z σ H ρ) (x : Ex b H H') (g : b.G H') {N : List Addr} (hN : ∀ c ∈ N, H c = none ∧ H' c ≠ none) : VOk b (fun c => Zo c ∨ c ∈ N) (fun c => Z c ∨ c ∈ N) σ H' ρ := by
  have v' := v.ex x g
  have hz : ∀ c, (Z c ∨ c ∈ N) → Z c ∨ H c = none := fun c z => z.imp id fun m => (hN c m).1
  refine ⟨g, fun c z => .inl (v.zb c z), fun c z => z.imp (v.zo c) id, fun c z => z.elim (v'.dom c) fun m => (hN c m).2, fun c z => z.elim (fun z => (v.zi c z).imp .inl id) fun m => .inl (.inr m), fun i d e => ?_, v.inj, fun i d e => ?_, v.len⟩
  · obtain ⟨a, h1, h2, h3, h4⟩ := v.own i d e
    refine ⟨a, h1, .inl h2, fun z => z.elim h3 fun m => v.dom a h2 (hN a m).1, h4.mono hz (v.keep x) fun o q => x a o q fun z => h3 (v.zb a z)⟩
  · obtain ⟨u, h1, h2⟩ := v.shr i d e
    exact ⟨u, h1, h2.mono hz (v.keep x)⟩
end
section
variable {X : Cx} {b : Bg} {W : WX} {e e1 e2 : Expr} {es : List Expr} {t t1 t2 : VT} {u : VAm} {pos : Pos}
theorem vm_nil : VMs X b W [] mNil := pa_mono pa_nil fun σ H Q ⟨Zo, Z, ρ, Qd, Ed, v, q, l, _⟩ => l [] H [] [] Ex.refl v.g .nil q
theorem vm_sh (h : VE X b W e t) (k : VMs X b W es u) (hs : starEach (e :: es) X.env = (false, eval e X.env) :: starEach es X.env := by rfl) : VMs X b W (e :: es) (mCons false t u) :=
  pa_mono (pa_cons h k hs) fun σ H Q ⟨Zo, Z, ρ, Qd, Ed, v, q, l, m⟩ => ⟨Zo, Z, ρ, _, Ed, v, q, fun x H1 d x1 g1 r1 q1 =>
    ⟨Zo, Z, ρ, _, Ed, v.ex x1 g1, q1, fun xs H2 ms N x2 g2 r2 q2 => l (x :: xs) H2 ((false, d) :: ms) N (x1.trans x2) g2
        (.sh (r1.mono (fun c z => z.imp id fun m => (r2.new c m).1) ((v.ex x1 g1).keep x2)) (r2.back (none_back g1 x1))) q2,
      fun c y H2 er x2 g2 r2 q2 => m c y H2 er (x1.trans x2) g2 r2 q2⟩, m⟩
theorem vm_nw (h : VN X b W e t) (k : VMs X b W es u) (hs : starEach (e :: es) X.env = (false, eval e X.env) :: starEach es X.env := by rfl) : VMs X b W (e :: es) (mCons true t u) :=
  pa_mono (pa_cons h k hs) fun σ H Q ⟨Zo, Z, ρ, Qd, Ed, v, q, l, m⟩ => ⟨Zo, Z, ρ, _, Ed, v, q, fun x H1 d x1 g1 ⟨a, ex, hn, o⟩ q1 => by
    subst ex
    obtain ⟨oa, ea⟩ := o.at
    have h1 : H1 a ≠ none := by rw [ea]; simp
    have nb : ¬ b.B a := fun z => v.fresh hn (v.zo a (v.zb a z))
    have v1 := v.many x1 g1 (N := [a]) fun c hc => by rw [List.mem_singleton.mp hc]; exact ⟨hn, h1⟩
    refine ⟨_, _, ρ, _, Ed, v1, q1, fun xs H2 ms N x2 g2 r2 q2 => ?_, fun c y H2 er x2 g2 r2 q2 => m c y H2 er (x1.trans x2) g2 ?_ q2⟩
    · have hN : a ∉ N := fun hm => h1 (r2.new a hm).1
      refine l (.ref a :: xs) H2 ((true, d) :: ms) (a :: N) (x1.trans x2) g2 (.nw hn hN ?_ ((r2.sub fun c z => ?_).back (none_back g1 x1))) q2
      · refine o.mono (fun c z => ?_) (fun c oc ec nc => x2 c oc ec fun z => nc (.inl (v.zo c (v.zb c z)))) fun oc ec => x2 a oc ec nb
        rcases z with z | z
        · exact .inl (.inl z)
        · rcases List.mem_cons.mp z with rfl | z
          · exact .inl (.inr rfl)
          · exact .inr (r2.new c z).1
      · rcases z with z | z
        · exact .inl (.inl z)
        · rcases List.mem_cons.mp z with rfl | z
          · exact .inl (.inr (List.mem_singleton.mpr rfl))
          · exact .inr z
    · obtain ⟨h3, h4⟩ := r2
      refine ⟨h3, h4.imp id ?_⟩
      rintro ⟨c, ys, e1, e2, e3, e4⟩
      exact ⟨c, ys, e1, e2, fun z => e3 (.inl z), e4.mono (fun c z => .inl (.inl z)) fun _ _ e _ => e⟩, m⟩
end
/-! ### a, b, .. = values -/
def setA : List Nat → List V → L2.St → L2.St
  | i :: is, v :: vs, σ => setA is vs (σ.set i (some v))
  | _, _, σ => σ
@[simp] def setE : List Nat → List (Bool × D) → VEnv → VEnv
  | i :: is, (k, d) :: ms, ρ => setE is ms (ρ.set i (if k = true then .own d else .shr d))
  | _, _, ρ => ρ
section
variable {b : Bg} {W : WX} {H0 : Hp} {M Zo Z : Addr → Prop} {σ : L2.St} {H H' : Hp} {ρ : VEnv} {De : VEnds} {Dn : Ends}
theorem FOk.many (f : FOk b H0 M Zo Z σ H ρ) (x : Ex b H H') (g : b.G H') {N : List Addr} (hN : ∀ c ∈ N, H c = none ∧ H' c ≠ none) : FOk b H0 M (fun c => Zo c ∨ c ∈ N) (fun c => Z c ∨ c ∈ N) σ H' ρ :=
  ⟨f.v.many x g hN, fun a o e nb nm => x a o (f.ext a o e nb nm) nb, f.fr⟩
/-- an address held apart becomes slot i's own -/
theorem FOk.adopt {a : Addr} {N : List Addr} {d : D} {i : Nat} (f : FOk b H0 M (fun c => Zo c ∨ c ∈ a :: N) Z σ H ρ) (hzb : ∀ c, b.B c → Zo c) (hN : a ∉ N) (hz : ¬ Zo a) (hf : M a ∨ H0 a = none) (hi : i < ρ.length) (o : Ow b Z H a d) :
    ∃ Z', FOk b H0 M (fun c => Zo c ∨ c ∈ N) Z' (σ.set i (some (.ref a))) H (ρ.set i (.own d)) ∧ ∀ c, Z' c → Z c := by
  have v := f.v
  have hiσ : i < σ.length := by rw [← v.len]; exact hi
  have hza : Z a := v.zo a (.inr List.mem_cons_self)
  have low : ∀ c, (Zo c ∨ c ∈ N) → (Zo c ∨ c ∈ a :: N) := fun c z => z.imp id (List.mem_cons_of_mem _)
  let Z' : Addr → Prop := fun c => (zBut (fun c => Zo c ∨ c ∈ N) σ ρ i c) ∨ c = a
  have sub : ∀ c, Z' c → Z c := fun c z => by
    rcases z with (z | ⟨j, e, _, h1, h2⟩) | rfl
    · exact v.zo c (low c z)
    · obtain ⟨c', h3, h4, _⟩ := v.own j e h1
      rw [h2] at h3; cases h3; exact h4
    · exact hza
  have na : ∀ (j : Nat) (e : D) (c : Addr), ρ[j]? = some (.own e) → σ[j]? = some (some (.ref c)) → c ≠ a := fun j e c h1 h2 q => by
    obtain ⟨c', h3, _, h4, _⟩ := v.own j e h1
    rw [h2] at h3; cases h3; rw [q] at h4
    exact h4 (.inr List.mem_cons_self)
  have ow : ∀ {j : Nat} {e : D}, (ρ.set i (.own d))[j]? = some (.own e) → (j = i ∧ e = d) ∨ (j ≠ i ∧ ρ[j]? = some (.own e)) := fun {j e} h => by
    by_cases hj : j = i
    · subst hj
      rw [List.getElem?_set_self hi] at h; cases h; exact .inl ⟨rfl, rfl⟩
    · rw [List.getElem?_set_ne (Ne.symm hj)] at h
      exact .inr ⟨hj, h⟩
  refine ⟨Z', ⟨⟨v.g, fun c z => .inl (hzb c z), fun c z => .inl (.inl z), fun c z => v.dom c (sub c z), fun c z => ?_, fun j e h => ?_, fun j k e e2 c h1 h2 h3 h4 => ?_, fun j e h => ?_, by simpa using v.len⟩, f.ext, fun j e c h1 h2 => ?_⟩, sub⟩
  · rcases z with (z | ⟨j, e, hj, h1, h2⟩) | rfl
    · exact .inl z
    · exact .inr ⟨j, e, by rw [List.getElem?_set_ne (Ne.symm hj)]; exact h1, by rw [List.getElem?_set_ne (Ne.symm hj)]; exact h2⟩
    · exact .inr ⟨i, d, List.getElem?_set_self hi, List.getElem?_set_self hiσ⟩
  · rcases ow h with ⟨q1, q2⟩ | ⟨hj, p1⟩
    · rw [q1, q2]
      exact ⟨a, List.getElem?_set_self hiσ, .inr rfl, fun z => z.elim hz hN, o.mono (fun c z => .inl (sub c z)) (fun _ _ e _ => e) fun _ e => e⟩
    · obtain ⟨c, h1, h2, h3, h4⟩ := v.own j e p1
      exact ⟨c, by rw [List.getElem?_set_ne (Ne.symm hj)]; exact h1, .inl (.inr ⟨j, e, hj, p1, h1⟩), fun z => h3 (low c z), h4.mono (fun c z => .inl (sub c z)) (fun _ _ e _ => e) fun _ e => e⟩
  · rcases ow h1 with ⟨q1, _⟩ | ⟨hj, p1⟩
    · rcases ow h2 with ⟨q2, _⟩ | ⟨hk, p2⟩
      · rw [q1, q2]
      · rw [q1, List.getElem?_set_self hiσ] at h3; cases h3
        rw [List.getElem?_set_ne (Ne.symm hk)] at h4
        exact absurd rfl (na k e2 _ p2 h4)
    · rw [List.getElem?_set_ne (Ne.symm hj)] at h3
      rcases ow h2 with ⟨q2, _⟩ | ⟨hk, p2⟩
      · rw [q2, List.getElem?_set_self hiσ] at h4; cases h4
        exact absurd rfl (na j e _ p1 h3)
      · rw [List.getElem?_set_ne (Ne.symm hk)] at h4
        exact v.inj j k e e2 c p1 p2 h3 h4
  · by_cases hj : j = i
    · rw [hj, List.getElem?_set_self hi] at h; cases h
    · rw [List.getElem?_set_ne (Ne.symm hj)] at h
      obtain ⟨w, h1, h2⟩ := v.shr j e h
      exact ⟨w, by rw [List.getElem?_set_ne (Ne.symm hj)]; exact h1, h2.mono (fun c z => .inl (sub c z)) fun _ _ e _ => e⟩
  · rcases ow h1 with ⟨q1, _⟩ | ⟨hj, p1⟩
    · rw [q1, List.getElem?_set_self hiσ] at h2; cases h2
      exact hf
    · rw [List.getElem?_set_ne (Ne.symm hj)] at h2
      exact f.fr j e c p1 h2
/-- all of them, one after another -/
theorem FOk.setAll (hb : ∀ c, b.B c → Zo c) : ∀ (is : List Nat) (vs : List V) (ms : List (Bool × D)) (N : List Addr) (Z : Addr → Prop) (σ : L2.St) (ρ : VEnv), FOk b H0 M (fun c => Zo c ∨ c ∈ N) Z σ H' ρ → Rm b Z H H' vs ms N → (∀ c ∈ N, ¬ Zo c ∧ (M c ∨ H0 c = none)) →
    ms.length = is.length → (∀ i ∈ is, i < ρ.length) → ∃ Z', FOk b H0 M Zo Z' (VL.setA is vs σ) H' (setE is ms ρ) := by
  intro is
  induction is with
  | nil =>
    intro vs ms N Z σ ρ f r hN hl hi
    cases r with
    | nil =>
      refine ⟨Z, ?_⟩
      have e : (fun c => Zo c ∨ c ∈ ([] : List Addr)) = Zo := by funext c; simp
      rw [e] at f
      exact f
    | sh _ _ => simp at hl
    | nw _ _ _ _ => simp at hl
  | cons i is ih =>
    intro vs ms N Z σ ρ f r hN hl hi
    cases r with
    | nil => simp at hl
    | sh r t =>
      have f1 := f.set (hi i List.mem_cons_self) r
      exact ih _ _ _ _ _ _ f1 (t.sub (f.v.but i)) hN (by simpa using hl) fun j hj => by rw [List.length_set]; exact hi j (List.mem_cons_of_mem _ hj)
    | nw hn hm o t =>
      obtain ⟨Z1, f1, sub⟩ := f.adopt hb hm (hN _ List.mem_cons_self).1 (hN _ List.mem_cons_self).2 (hi i List.mem_cons_self) o
      exact ih _ _ _ _ _ _ f1 (t.sub sub) (fun c hc => hN c (List.mem_cons_of_mem _ hc)) (by simpa using hl) fun j hj => by rw [List.length_set]; exact hi j (List.mem_cons_of_mem _ hj)
theorem FOk.par (f : FOk b H0 M Zo Z σ H ρ) {is : List Nat} {vs : List V} {ms : List (Bool × D)} {N : List Addr} (x : Ex b H H') (g : b.G H') (r : Rm b (fun c => Z c ∨ c ∈ N) H H' vs ms N) (hl : ms.length = is.length) (hi : ∀ i ∈ is, i < ρ.length) : ∃ Z', FOk b H0 M Zo Z' (VL.setA is vs σ) H' (setE is ms ρ) := by
  refine FOk.setAll f.v.zb is vs ms N _ σ ρ (f.many x g r.new) r (fun c hc => ⟨fun z => f.v.dom c (f.v.zo c z) (r.new c hc).1, ?_⟩) hl hi
  have hn := (r.new c hc).1
  cases q : H0 c with
  | none => exact .inr rfl
  | some u =>
    by_cases hb : b.B c
    · exact absurd hn (b.dom _ _ f.v.g hb)
    · by_cases hm : M c
      · exact .inl hm
      · have := f.ext c u q hb hm
        rw [hn] at this; cases this
end
section
variable {X : Cx} {b : Bg} {W : WX} {e e1 e2 e3 : Expr} {es : List Expr} {t t1 t2 : VT} {u : VAm} {pos : Pos}
@[simp] def sPar (is : List Nat) (u : VAm) : VS := fun ρ De => (∀ i ∈ is, i < ρ.length) ∧ u ρ (fun ms => ms.length = is.length ∧ De.nx (setE is ms ρ)) (De.ex ρ)
theorem Rm.len {Y : Addr → Prop} {H H' : Hp} : ∀ {vs : List V} {ms : List (Bool × D)} {N : List Addr}, Rm b Y H H' vs ms N → vs.length = ms.length
  | _, _, _, .nil => rfl
  | _, _, _, .sh _ t => congrArg (· + 1) (Rm.len t)
  | _, _, _, .nw _ _ _ t => congrArg (· + 1) (Rm.len t)
theorem vs_par2 {i j : Nat} {x y : Str} {px py pt : Pos} {kt k2 pt2} (hc : X.calm = true) (hN : X.N.Nodup) (hi : X.N[i]? = some x) (hj : X.N[j]? = some y) (hij : i ≠ j)
    (hx : X.env.scope.names.lookup x = some .local) (hy : X.env.scope.names.lookup y = some .local) (ha : VMs X b W [e1, e2] u)
    (hw : swappedStores [.Tuple [.Name x px, .Name y py] kt pt] (.Tuple [e1, e2] k2 pt2) X.env = pure (some [x, y]))
    (hs : swapsWithSole [.Tuple [.Name x px, .Name y py] kt pt] (.Tuple [e1, e2] k2 pt2) pos.line X.env = pure false := by rfl) :
    VSt X b W (.Assign [.Tuple [.Name x px, .Name y py] kt pt] (.Tuple [e1, e2] k2 pt2) pos) (sPar [i, j] u) :=
  ps_mono (ps_par hc hN hi hj hij hx hy ha hw hs) fun D σ H ⟨H0, M, Zo, Z, ρ, De, f, ⟨hl, q⟩, l⟩ => ⟨Zo, Z, ρ, _, _, f.v, q, fun vs H' ms N x g r ⟨hm, q'⟩ => by
    obtain ⟨Z', f'⟩ := f.par (is := [i, j]) x g r hm hl
    match vs, r.len.trans hm with
    | [v, w], _ => exact ⟨v, w, rfl, l.nx Z' _ H' _ f' q'⟩, l.er f⟩
theorem vs_par3 {i j k : Nat} {x y z : Str} {px py pz pt : Pos} {kt k2 pt2} (hc : X.calm = true) (hN : X.N.Nodup) (hi : X.N[i]? = some x) (hj : X.N[j]? = some y) (hk : X.N[k]? = some z) (hij : i ≠ j) (hik : i ≠ k) (hjk : j ≠ k)
    (hx : X.env.scope.names.lookup x = some .local) (hy : X.env.scope.names.lookup y = some .local) (hz : X.env.scope.names.lookup z = some .local) (ha : VMs X b W [e1, e2, e3] u)
    (hw : swappedStores [.Tuple [.Name x px, .Name y py, .Name z pz] kt pt] (.Tuple [e1, e2, e3] k2 pt2) X.env = pure (some [x, y, z]))
    (hs : swapsWithSole [.Tuple [.Name x px, .Name y py, .Name z pz] kt pt] (.Tuple [e1, e2, e3] k2 pt2) pos.line X.env = pure false := by rfl) :
    VSt X b W (.Assign [.Tuple [.Name x px, .Name y py, .Name z pz] kt pt] (.Tuple [e1, e2, e3] k2 pt2) pos) (sPar [i, j, k] u) :=
  ps_mono (ps_par3 hc hN hi hj hk hij hik hjk hx hy hz ha hw hs) fun D σ H ⟨H0, M, Zo, Z, ρ, De, f, ⟨hl, q⟩, l⟩ => ⟨Zo, Z, ρ, _, _, f.v, q, fun vs H' ms N x g r ⟨hm, q'⟩ => by
    obtain ⟨Z', f'⟩ := f.par (is := [i, j, k]) x g r hm hl
    match vs, r.len.trans hm with
    | [v, w, y], _ => exact ⟨v, w, y, rfl, l.nx Z' _ H' _ f' q'⟩, l.er f⟩
/-- the targets' reading: names -/
def gNames : List Nat → TGs
  | [] => gNil
  | i :: is => gCons (gName i) (gNames is)
theorem gNames_set : ∀ {is : List Nat} {vs : List V} {σ : L2.St} {H : Hp} {Q : L2.St → Hp → Prop}, vs.length = is.length → Q (VL.setA is vs σ) H → gNames is vs σ H Q
  | [], [], _, _, _, _, q => ⟨rfl, q⟩
  | i :: is, v :: vs, σ, H, Q, h, q => ⟨v, vs, rfl, gNames_set (by simpa using h) q⟩
/-- by way of a tuple -/
theorem vs_parT {is : List Nat} {tgs : List Expr} {kt k2} {pt pt2 : Pos} (hc : X.calm = true) (hg : PGs X tgs (gNames is)) (ha : VMs X b W es u) (hn : (assignEach tgs X.env).length = is.length := by rfl) (hst : (assignEach tgs X.env).findIdx? (·.1) = none := by rfl)
    (hz : is.length ≤ 1000 := by decide) (hs : swapsWithSole [.Tuple tgs kt pt] (.Tuple es k2 pt2) pos.line X.env = pure false := by rfl) (hw : swappedStores [.Tuple tgs kt pt] (.Tuple es k2 pt2) X.env = pure none := by rfl)
    (h1 : (assignEach [.Tuple tgs kt pt] X.env).map (·.2) = [assign (.Tuple tgs kt pt) X.env] := by rfl) :
    VSt X b W (.Assign [.Tuple tgs kt pt] (.Tuple es k2 pt2) pos) (sPar is u) :=
  ps_mono (ps_asg (pe_tupF ha) (pg_tup hc hg hn hst) hs hw h1) fun D σ H ⟨H0, M, Zo, Z, ρ, De, f, ⟨hl, q⟩, l⟩ => ⟨Zo, Z, ρ, _, _, f.v, q, fun vs H' ms N x g r ⟨hm, q'⟩ => by
    obtain ⟨Z', f'⟩ := f.par (is := is) x g r hm hl
    have hv : vs.length = is.length := r.len.trans hm
    refine ⟨Nat.le_of_lt (small1000 (by rw [hv]; exact hz)), fun p o hp ho => ⟨p, vs, rfl, SqT.th upd_same, hv, gNames_set hv ?_⟩⟩
    exact l.nx Z' _ _ _ (f'.ex (Ex.new hp) (Bg.new g hp)) q', l.er f⟩
end
end VL
set_option Elab.async false
set_option linter.all false
set_option maxRecDepth 100000
set_option maxHeartbeats 4000000
namespace VL
open PySem PySem.Spec PyProof.Rows L2
/-! ### sources: a list, a tuple, a text -/
inductive Kd where
  | l (a : Addr) | t (a : Addr) | s (x : Str) (k : Tok)
def Kd.val : Kd → Value
  | .l a => .ref a | .t a => .ref a | .s x k => .str x k
def Kd.obj : Kd → Obj
  | .l a => { cls := .type "list_iterator", data := .fields #[.ref a, .int 0 0] }
  | .t a => { cls := .type "tuple_iterator", data := .fields #[.ref a, .int 0 0] }
  | .s x k => { cls := .type (strIterType x), data := .fields #[.str x k, .int 0 0] }
/-- the walker at it stands at item i -/
def Kd.At : Kd → Addr → Nat → Heap → Prop
  | .l a, it, i, h => h.IsListIter it a i
  | .t a, it, i, h => h.IsTupleIter it a i
  | .s x k, it, i, h => h.IsStrIter it (strIterType x) x k i
def Kd.ad : Kd → List Addr
  | .l a => [a] | .t a => [a] | .s _ _ => []
def signs (x : Str) : List V := x.cps.toList.map fun c => V.str (mkS [c])
def Kd.gives (K : PySem.W.Frag) (H : Hp) : Kd → List V → Prop
  | .l a, xs => SqL K H a xs
  | .t a, xs => SqT K H a xs
  | .s x _, xs => xs = signs x
theorem Kd.begins {X : Cx} {pins : List (Addr × Obj)} {σ : L2.St} {H : Hp} {s : Shared} (I : Inv X pins σ H s) {k : Kd} {xs : List V} (g : k.gives X.K H xs) : ∃ Hs, Begins k.val k.obj Hs ∧ Hs s.heap ∧ ∀ b ∈ k.ad, b < s.heap.objs.size := by
  cases k with
  | l a =>
    obtain ⟨its, _, p, _⟩ := I.list g
    exact ⟨_, begins_list a its.toArray, p.isList, fun b hb => by rw [List.mem_singleton.mp hb]; exact p.lt⟩
  | t a =>
    obtain ⟨its, _, p, _⟩ := I.tuple g
    obtain ⟨o, ho, _⟩ := id p
    exact ⟨_, begins_tuple a its.toArray, p, fun b hb => by rw [List.mem_singleton.mp hb]; exact Heap.lt_size ho⟩
  | s x t => exact ⟨_, begins_text x t, trivial, fun b hb => by cases hb⟩
theorem Kd.start {k : Kd} {it : Addr} {h : Heap} (e : h.get? it = some k.obj) : k.At it 0 h := by
  cases k with
  | l a => exact ⟨_, e, rfl, rfl⟩
  | t a => exact ⟨_, e, rfl, rfl⟩
  | s x t => exact ⟨_, e, rfl, rfl⟩
theorem Kd.At.at {k : Kd} {it : Addr} {i : Nat} {h h' : Heap} (st : k.At it i h) (e : ∀ o, h.get? it = some o → h'.get? it = some o) : k.At it i h' := by
  cases k with
  | l a => exact Heap.IsListIter.at st e
  | t a => exact Heap.IsTupleIter.at st e
  | s x t => obtain ⟨o, ho, r⟩ := st; exact ⟨o, e o ho, r⟩
theorem Kd.At.rec' {k : Kd} {it : Addr} {i : Nat} {h : Heap} (st : k.At it i h) : ∃ o vs, h.get? it = some o ∧ o.data = .fields vs := by
  cases k with
  | l a => obtain ⟨o, ho, _, hd⟩ := st; exact ⟨o, _, ho, hd⟩
  | t a => obtain ⟨o, ho, _, hd⟩ := st; exact ⟨o, _, ho, hd⟩
  | s x t => obtain ⟨o, ho, _, hd⟩ := st; exact ⟨o, _, ho, hd⟩
theorem signs_get {x : Str} {i : Nat} {c : Nat} (h : x.cps[i]? = some c) : (signs x)[i]? = some (V.str (mkS [c])) := by
  unfold signs
  rw [List.getElem?_map, Array.getElem?_toList, h]
  rfl
theorem vals_at : ∀ {xs : List V} {its : List Value} {i : Nat} {u : Value}, Vals xs its → its[i]? = some u → ∃ y, xs[i]? = some y ∧ RelV y u
  | _, _, _, _, .nil, e => by simp at e
  | _, _, 0, _, .cons r _, e => by simp at e; subst e; exact ⟨_, rfl, r⟩
  | _, _, i + 1, _, .cons _ t, e => by
    obtain ⟨y, h1, h2⟩ := vals_at (i := i) t (by simpa using e)
    exact ⟨y, by simpa using h1, h2⟩
/-- what a source draws -/
theorem Kd.draws {X : Cx} {pins : List (Addr × Obj)} {σ : L2.St} {H : Hp} {s : Shared} (I : Inv X pins σ H s) (hc : X.calm = true) {k : Kd} {xs : List V} (g : k.gives X.K H xs) (it : Addr) (hne : it ∉ k.ad) :
    ∃ (P : Nat → Value → Prop) (St : Nat → Heap → Prop), Draws X.prog X.w X.A.in1 it (it :: k.ad) xs.length P St ∧ (∀ i, k.At it i s.heap → St i s.heap) ∧ (∀ i h, St i h → k.At it i h) ∧ ∀ i v, P i v → ∃ y, xs[i]? = some y ∧ RelV y v := by
  have hh : X.A.in1.handled = none := I.ok.hd hc
  cases k with
  | l a =>
    obtain ⟨its, r, p, _⟩ := I.list g
    have hn : a ≠ it := fun e => hne (by rw [e]; exact List.mem_singleton.mpr rfl)
    have D := Draws.list (prog := X.prog) (w := X.w) (A := X.A.in1) hh it a hn its.toArray
    rw [List.size_toArray, ← r.length] at D
    exact ⟨_, _, D, fun i st => ⟨st, p.isList⟩, fun i h st => st.1, fun i v hv => vals_at r (by simpa using hv)⟩
  | t a =>
    obtain ⟨its, r, p, _⟩ := I.tuple g
    have hn : a ≠ it := fun e => hne (by rw [e]; exact List.mem_singleton.mpr rfl)
    have D := Draws.tuple (prog := X.prog) (w := X.w) (A := X.A.in1) hh it a hn its.toArray
    rw [List.size_toArray, ← r.length] at D
    exact ⟨_, _, D, fun i st => ⟨st, p⟩, fun i h st => st.1, fun i v hv => vals_at r (by simpa using hv)⟩
  | s x t =>
    obtain rfl : xs = signs x := g
    have D := Draws.text (prog := X.prog) (w := X.w) (A := X.A.in1) hh it x t
    have e : (signs x).length = x.cps.size := by unfold signs; simp
    rw [← e] at D
    refine ⟨_, _, D, fun i st => st, fun i h st => st, fun i v hv => ?_⟩
    obtain ⟨c, u, h1, rfl⟩ := hv
    exact ⟨_, signs_get h1, u, rfl⟩
theorem Kd.gives_inj {X : Cx} {pins : List (Addr × Obj)} {σ : L2.St} {H : Hp} {s : Shared} (I : Inv X pins σ H s) {k : Kd} {xs ys : List V} (g : k.gives X.K H xs) (g' : k.gives X.K H ys) : xs = ys := by
  cases k with
  | l a => exact I.list_inj g g'
  | t a => exact I.tuple_inj g g'
  | s x t => exact g.trans g'.symm
/-! ### a walk over a source -/
/-- what a walk of items gives -/
def Itk (K : PySem.W.Frag) (k : Kd) : It :=
  ⟨fun i H => ∃ xs x, k.gives K H xs ∧ xs[i]? = some x, fun i H x H' => H' = H ∧ ∀ xs, k.gives K H xs → xs[i]? = some x, fun i H => ∃ xs, k.gives K H xs ∧ xs.length ≤ i⟩
theorem Turn.imp {P : Program} {w : World} {K : PySem.W.Frag} {tg : Expr} {J J' : It} {fp : List Addr} {it : Addr} {tn : Nat → Heap → Prop} (T : Turn P w K tg J fp it tn) (h1 : ∀ i H, J'.go i H → J.go i H) (h2 : ∀ i H x H', J'.go i H → J.yld i H x H' → J'.yld i H x H') (h3 : ∀ i H, J'.stop i H → J.stop i H) : Turn P w K tg J' fp it tn where
  mem := T.mem
  obj := T.obj
  keep := T.keep
  item := fun X hP hw hK hc i pins s σ H E I hf st hg => thn (T.item X hP hw hK hc i pins s σ H E I hf st (h1 i H hg)) fun r s1 ⟨u, hr, q⟩ => ⟨u, hr, thn q fun _ s2 ⟨x, H', I', rx, y, st', f'⟩ => ⟨x, H', I', rx, h2 i H x H' hg y, st', f'⟩⟩
  done := fun X hP hw hK hc i pins s σ H E I hf st hg => T.done X hP hw hK hc i pins s σ H E I hf st (h3 i H hg)
  self := T.self
theorem turn_kd {P : Program} {w : World} {K : PySem.W.Frag} {tg : Expr} (k : Kd) (it : Addr) : Turn P w K tg (Itk K k) [it] it (fun i h => k.At it i h) := by
  cases k with
  | l a => exact Turn.imp (turn_list a it) (fun i H ⟨xs, x, h⟩ => ⟨xs, x, h⟩) (fun i H x H' _ h => h) fun i H h => h
  | t a => exact Turn.imp (turn_tuple a it) (fun i H ⟨xs, x, h⟩ => ⟨xs, x, h⟩) (fun i H x H' _ h => h) fun i H h => h
  | s x t =>
    have e : (signs x).length = x.cps.size := by unfold signs; simp
    refine Turn.imp (turn_str it x t (strIterType x) (by unfold strIterType; split <;> simp)) (fun i H ⟨xs, y, h, hy⟩ => ?_) (fun i H y H' _ h => ?_) fun i H ⟨xs, h, hl⟩ => ?_
    · obtain rfl : xs = signs x := h
      obtain ⟨hlt, _⟩ := List.getElem?_eq_some_iff.mp hy
      rw [e] at hlt
      exact hlt
    · obtain ⟨h1, c, hcx, hy⟩ := h
      refine ⟨h1, fun xs h => ?_⟩
      obtain rfl : xs = signs x := h
      rw [hy]
      exact signs_get hcx
    · obtain rfl : xs = signs x := h
      rw [e] at hl
      exact hl
/-- a source's value -/
inductive Src (K : PySem.W.Frag) (H : Hp) : V → List V → (Kd → Prop) → Prop
  | l {a : Addr} {xs : List V} : SqL K H a xs → Src K H (.ref a) xs fun k => k = .l a
  | t {a : Addr} {xs : List V} : SqT K H a xs → Src K H (.ref a) xs fun k => k = .t a
  | s {x : Str} : Src K H (.str x) (signs x) fun k => ∃ t, k = .s x t
theorem Src.kd {K : PySem.W.Frag} {H : Hp} {v : V} {xs : List V} {C : Kd → Prop} (h : Src K H v xs C) {u : Value} (r : RelV v u) : ∃ k, C k ∧ k.val = u ∧ k.gives K H xs := by
  cases h with
  | l h => cases r; exact ⟨_, rfl, rfl, h⟩
  | t h => cases r; exact ⟨_, rfl, rfl, h⟩
  | s => obtain ⟨t, rfl⟩ := r; exact ⟨_, ⟨t, rfl⟩, rfl, rfl⟩
section
variable {X : Cx} {tg e e2 e3 : Expr} {p pos : Pos}
def iSrc (K : PySem.W.Frag) (te : TE) : TI := fun σ H R => te σ H fun x H1 => ∃ xs C, Src K H1 x xs C ∧ ∀ k, C k → R (Itk K k) H1
theorem pi_src {te : TE} (he : PE X e te) : PI X tg e (iSrc X.K te) := by
  refine ⟨fun pins s σ H R I h => ?_⟩
  refine thn (he.run pins s σ H _ I h) fun v s1 ⟨y, H1, I1, r1, xs, C, sx, q⟩ => ?_
  obtain ⟨k, hk, rfl, g⟩ := sx.kd r1
  obtain ⟨Hs, B, hs, _⟩ := k.begins I1 g
  exact B.iter _ _ _ _ _ _ hs (pi_one (tk := s1.toks) I1 _ (turn_kd k _) (Kd.start (Heap.get?_push_size _ B.free)) (q k hk))
end
/-! ### enumerate -/
def Iek (K : PySem.W.Frag) (k : Kd) : It :=
  ⟨fun i H => ∃ xs x, k.gives K H xs ∧ xs[i]? = some x, fun i H v H' => ∃ T o x, v = .ref T ∧ H T = none ∧ o.dict = none ∧ H' = upd H T (HO.th o [.int (i : Nat), x]) ∧ ∀ xs, k.gives K H xs → xs[i]? = some x, fun i H => ∃ xs, k.gives K H xs ∧ xs.length = i⟩
theorem lt_of_get {h : Heap} {b : Addr} {o : Obj} (e : h.get? b = some o) : b < h.objs.size := Heap.lt_size e
theorem turn_ek {P : Program} {w : World} {K : PySem.W.Frag} {elts : List Expr} {kk : Nat} {tpos : Pos} (k : Kd) {en it : Addr} (hne : en ≠ it) (h1 : en ∉ k.ad) (h2 : it ∉ k.ad) :
    Turn P w K (.Tuple elts kk tpos) (Iek K k) [en, it] en (fun i h => (∃ old, IsEnum h en it ((i : Nat) : Int) old) ∧ k.At it i h) where
  mem := List.mem_cons_self
  obj := fun i h ⟨⟨old, he⟩, hi⟩ b hb => by
    rcases List.mem_cons.mp hb with rfl | hb
    · exact ⟨_, he, nofun⟩
    · rw [List.mem_singleton.mp hb]
      obtain ⟨o, vs, ho, hd⟩ := hi.rec'
      exact ⟨o, ho, fun v q => by rw [hd] at q; cases q⟩
  keep := fun i h h' ⟨⟨old, he⟩, hi⟩ kp => ⟨⟨old, kp en List.mem_cons_self _ he⟩, hi.at fun o q => kp it (by simp) o q⟩
  item := by
    rintro X rfl rfl rfl hc i pins s σ H E I hf ⟨⟨old, he⟩, hi⟩ ⟨xs, x, g, hx⟩
    obtain ⟨Pd, St, D, s1, s2, s3⟩ := k.draws I hc g it h2
    have hlt : i < xs.length := (List.getElem?_eq_some_iff.mp hx).1
    have hel := lt_of_get he
    obtain ⟨oi, vi, hoi, _⟩ := hi.rec'
    have hil := lt_of_get hoi
    refine wpAny_pyNext_enum_itemD D he (s1 i hi) hlt hne (by simp [hne, h1]) fun u h' tk hP ho st' hT hsz hk => ?_
    obtain ⟨y, hy, ru⟩ := s3 i u hP
    obtain rfl : x = y := Option.some.inj (hx.symm.trans hy)
    refine ⟨_, rfl, wpAny_letOwnedTupleGo_enum (s := { s with heap := h', toks := tk + 1 }) ho fun h'' he' sb => ?_⟩
    have hT2 := (sb.2 s.heap.objs.size (Nat.ne_of_gt hel)).trans hT
    have new : ObjOk X.prog X.w (upd H s.heap.objs.size (HO.th (tob [.int i tk, u]) [.int (i : Nat), x])) h'' s.heap.objs.size (HO.th (tob [.int i tk, u]) [.int (i : Nat), x]) :=
      th_ok (by show 2 ≤ sizeLine; decide) (.cons ⟨_, rfl⟩ (.cons ru .nil)) hT2
    have I1 : Inv X pins σ (upd H s.heap.objs.size (HO.th (tob [.int i tk, u]) [.int (i : Nat), x])) { s with heap := h'', toks := tk + 1 } :=
      I.turnedNew (ch := [en, it]) (fun b ob hb q => by
        have n1 : b ≠ en := fun z => hb (by simp [z])
        have n2 : b ≠ it := fun z => hb (by simp [z])
        exact (sb.2 b n1).trans (hk b ob n1 n2 q)) hf (Nat.le_refl _) new
    refine ⟨.ref s.heap.objs.size, _, I1, rfl, ⟨_, _, x, rfl, I.hok.fresh (Nat.le_refl _), rfl, rfl, fun ys hy => by rw [k.gives_inj I hy g]; exact hx⟩, ⟨⟨u, ?_⟩, (s2 _ _ st').at fun o q => (sb.2 it (Ne.symm hne)).trans q⟩, fun b hb => ?_⟩
    · have e1 : ((i + 1 : Nat) : Int) = (i : Int) + 1 := by omega
      rw [e1]; exact he'
    · have hb' : b < s.heap.objs.size := by
        rcases List.mem_cons.mp hb with rfl | hb
        · exact hel
        · rw [List.mem_singleton.mp hb]; exact hil
      rw [upd_ne (Nat.ne_of_lt hb')]
      exact (hf b hb).1
  done := by
    rintro X rfl rfl rfl hc i pins s σ H E I hf ⟨⟨old, he⟩, hi⟩ ⟨xs, g, hl⟩
    obtain ⟨Pd, St, D, s1, s2, s3⟩ := k.draws I hc g it h2
    obtain ⟨f0, f1, f2, f3, f4, f5⟩ := hf it (by simp)
    subst hl
    exact wpAny_pyNext_enum_endD D he (s1 _ hi) fun h' eb => ⟨rfl, I.turned (t' := s.toks) (fun b o hb q => eb b o hb q) f0 f1 f3 f4 f5⟩
  self := fun A i s Q E ⟨⟨_, he⟩, _⟩ h => wpAny_pyIter_enum he h
theorem enum_meets1 {v : Value} {o : Obj} {Hs : Heap → Prop} (B : Begins v o Hs) :
    Meets (Builtin.«enumerate.__new__» ⟨[.type "enumerate", v], []⟩) (fun _ R s => Hs s.heap ∧
      R (.ok (.ret (.ref (s.heap.push o).objs.size))) { s with heap := (s.heap.push o).push { cls := .type "enumerate", data := .fields #[.none, .bool false, .ref s.heap.objs.size, rawInt 0, .none, .none] } }) :=
  .of_wp fun prog w A R s hh => by
    obtain ⟨hp, gn, dr, tk, os⟩ := s
    obtain ⟨hv, h⟩ := hh
    have hsub := sub_enumerate
    have itv : ∀ {A' : Around} {E : Value → Shared → Prop} {Q : Value → Shared → Prop}, Q (.ref hp.objs.size) ⟨hp.push o, gn, dr, tk, os⟩ → wpAny (model prog w) A' (pyIter v) Q E ⟨hp, gn, dr, tk, os⟩ :=
      fun q => B.iter prog w _ _ ⟨hp, gn, dr, tk, os⟩ _ hv q
    wp_walk using itv
    refine wpAny_stack_any fun fr => wpAny_pure ?_
    split
    · rename_i c0 _ _ _ _ _
      cases (c0 == Value.type "enumerate") <;> (wp_walk using itv; exact ⟨_, rfl, h⟩)
    · wp_walk using itv
      exact ⟨_, rfl, h⟩
section
variable {prog : Program} {w : World} {A : Around} {E : Value → Shared → Prop} {s : Shared}
theorem enum_one {v : Value} {o : Obj} {Hs : Heap → Prop} {Q : Value → Shared → Prop} (B : Begins v o Hs) (hv : Hs s.heap)
    (h : ∀ h', IsEnum h' (s.heap.objs.size + 1) s.heap.objs.size 0 .none → h'.get? s.heap.objs.size = some o → (∀ b ob, s.heap.get? b = some ob → h'.get? b = some ob) → Q (.ref (s.heap.objs.size + 1)) { s with heap := h' }) :
    wpAny (model prog w) A (call (.type "enumerate") [v]) Q E s := by
  refine callType_new F.called_enumerate (by decide) (F.typeCall_enumerate_1 _) (F.newCall_enumerate_1 _) (fun obj => F.args_object_init_2 obj _) F.entry_enumerate_new (enum_meets1 B) ⟨hv, ?_⟩
  have z1 : (s.heap.push o).objs.size = s.heap.objs.size + 1 := Heap.size_push ..
  have g1 := Heap.get?_push_size (s.heap.push o) (o := { cls := .type "enumerate", data := .fields #[.none, .bool false, .ref s.heap.objs.size, rawInt 0, .none, .none] }) rfl
  show _ ∧ _
  rw [z1] at g1 ⊢
  exact ⟨⟨_, g1, rfl⟩, h _ g1 (Heap.get?_push_of_some _ (Heap.get?_push_size _ B.free)) fun b ob e => Heap.get?_push_of_some _ (Heap.get?_push_of_some _ e)⟩
end
section
variable {X : Cx} {tg e e2 e3 : Expr} {elts : List Expr} {kk : Nat} {p pos tpos : Pos}
def iEnumS (K : PySem.W.Frag) (ta : TA) : TI := fun σ H R => ta σ H fun vs H1 => ∃ x xs C, vs = [x] ∧ Src K H1 x xs C ∧ ∀ k, C k → R (Iek K k) H1
theorem pi_enumS {ta : TA} (hg : Gl X "enumerate") (hm : X.mg "enumerate" = none) (ha : PA X [e] ta) (hs : starEach [e] X.env = [(false, eval e X.env)] := by rfl) : PI X (.Tuple elts kk tpos) (.Call (.Name "enumerate" p) [e] [] pos) (iEnumS X.K ta) := by
  refine ⟨fun pins s σ H R I h => ?_⟩
  refine Call_ (ld_blt I hg hm boot_enumerate (PyProof.Rows.callWith_type1 (thn (ha.run pos pins s σ H _ I h) fun us s1 ⟨vs, H1, I1, r1, x, xs, C, ev, sx, q⟩ => ?_) hs rfl))
  subst ev
  obtain ⟨u, rfl, ru⟩ := vals1 r1
  obtain ⟨k, hk, rfl, g⟩ := sx.kd ru
  obtain ⟨Hs, B, hst, hlt⟩ := k.begins I1 g
  refine enum_one B hst fun h' he hit kp => wpAny_pyIter_enum he ?_
  have old : ∀ b ∈ k.ad, b ≠ s1.heap.objs.size ∧ b ≠ s1.heap.objs.size + 1 := fun b hb => by
    have z : (b : Nat) < s1.heap.objs.size := hlt b hb
    exact ⟨Nat.ne_of_lt z, Nat.ne_of_lt (Nat.lt_succ_of_lt z)⟩
  refine ⟨s1.heap.objs.size + 1, [s1.heap.objs.size + 1, s1.heap.objs.size], _, _, H1, rfl, I1.kept (t' := s1.toks) kp, turn_ek k (Nat.succ_ne_self _) (fun hm => (old _ hm).2 rfl) (fun hm => (old _ hm).1 rfl), ⟨⟨.none, he⟩, Kd.start hit⟩, fun b hb => ?_, q k hk⟩
  have hle : s1.heap.objs.size ≤ b := by
    rcases List.mem_cons.mp hb with z | z
    · rw [z]; exact Nat.le_succ _
    · rw [List.mem_singleton.mp z]; exact Nat.le_refl _
  exact I1.fpOk hle (I1.hok.fresh hle)
end
end VL
set_option Elab.async false
set_option linter.all false
set_option maxRecDepth 100000
set_option maxHeartbeats 4000000
namespace VL
open PySem PySem.Spec PyProof.Rows L2
/-! ### zip of two, of three sources -/
def Iz2 (K : PySem.W.Frag) (k1 k2 : Kd) : It :=
  ⟨fun i H => ∃ xs ys x y, k1.gives K H xs ∧ k2.gives K H ys ∧ xs[i]? = some x ∧ ys[i]? = some y,
    fun i H v H' => ∃ T o x y, v = .ref T ∧ H T = none ∧ o.dict = none ∧ H' = upd H T (HO.th o [x, y]) ∧ (∀ xs, k1.gives K H xs → xs[i]? = some x) ∧ ∀ ys, k2.gives K H ys → ys[i]? = some y,
    fun i H => ∃ xs ys, k1.gives K H xs ∧ k2.gives K H ys ∧ i ≤ xs.length ∧ i ≤ ys.length ∧ (i = xs.length ∨ i = ys.length)⟩
/-- the addresses of a zip's own objects -/
structure Zp2 (k1 k2 : Kd) (z TI TO i1 i2 : Addr) : Prop where
  sep : ZipSep2 z TI TO i1 i2 (i1 :: k1.ad) (i2 :: k2.ad)
  n1 : i1 ∉ k1.ad
  n2 : i2 ∉ k2.ad
theorem turn_z2 {P : Program} {w : World} {K : PySem.W.Frag} {elts : List Expr} {kk : Nat} {tpos : Pos} (k1 k2 : Kd) {z TI TO i1 i2 : Addr} (S : Zp2 k1 k2 z TI TO i1 i2) :
    Turn P w K (.Tuple elts kk tpos) (Iz2 K k1 k2) [z, TI, TO, i1, i2] z (fun i h => IsZip h z TI TO .none ∧ IsTupOf2 h TI (.ref i1) (.ref i2) ∧ (∃ x y, IsTupOf2 h TO x y) ∧ k1.At i1 i h ∧ k2.At i2 i h) where
  mem := List.mem_cons_self
  obj := fun i h ⟨hz, hI, ⟨x, y, hO⟩, a1, a2⟩ b hb => by
    obtain ⟨o1, v1, e1, d1⟩ := a1.rec'
    obtain ⟨o2, v2, e2, d2⟩ := a2.rec'
    simp only [List.mem_cons, List.not_mem_nil, or_false] at hb
    rcases hb with rfl | rfl | rfl | rfl | rfl
    · exact ⟨_, hz, nofun⟩
    · exact ⟨_, hI, nofun⟩
    · exact ⟨_, hO, nofun⟩
    · exact ⟨o1, e1, fun v q => by rw [d1] at q; cases q⟩
    · exact ⟨o2, e2, fun v q => by rw [d2] at q; cases q⟩
  keep := fun i h h' ⟨hz, hI, ⟨x, y, hO⟩, a1, a2⟩ kp => ⟨kp z (by simp) _ hz, kp TI (by simp) _ hI, ⟨x, y, kp TO (by simp) _ hO⟩, a1.at fun o => kp i1 (by simp) o, a2.at fun o => kp i2 (by simp) o⟩
  item := by
    rintro X rfl rfl rfl hc i pins s σ H E I hf ⟨hz, hI, ⟨x0, y0, hO⟩, a1, a2⟩ ⟨xs, ys, x, y, g1, g2, hx, hy⟩
    obtain ⟨P1, S1, D1, in1, out1, at1⟩ := k1.draws I hc g1 i1 S.n1
    obtain ⟨P2, S2, D2, in2, out2, at2⟩ := k2.draws I hc g2 i2 S.n2
    have hl1 : i < xs.length := (List.getElem?_eq_some_iff.mp hx).1
    have hl2 : i < ys.length := (List.getElem?_eq_some_iff.mp hy).1
    obtain ⟨o1, v1, e1, d1⟩ := a1.rec'
    obtain ⟨o2, v2, e2, d2⟩ := a2.rec'
    have zl := lt_of_get hz
    have zlt : ∀ c ∈ [z, TI, TO, i1, i2], c < s.heap.objs.size := fun c hc => by
      simp only [List.mem_cons, List.not_mem_nil, or_false] at hc
      rcases hc with rfl | rfl | rfl | rfl | rfl
      · exact zl
      · exact lt_of_get hI
      · exact lt_of_get hO
      · exact lt_of_get e1
      · exact lt_of_get e2
    refine wpAny_pyNext_zipD2_item S.sep D1 D2 hz hI hO (in1 i a1) (in2 i a2) hl1 hl2 fun u1 u2 h' tk p1 p2 hz' hO' st1 st2 hT hsz hk => ?_
    obtain ⟨y1, q1, r1⟩ := at1 i u1 p1
    obtain ⟨y2, q2, r2⟩ := at2 i u2 p2
    obtain rfl : x = y1 := Option.some.inj (hx.symm.trans q1)
    obtain rfl : y = y2 := Option.some.inj (hy.symm.trans q2)
    refine ⟨_, rfl, wpAny_letOwnedTupleGo_zip (s := { s with heap := h', toks := tk }) hz' fun h'' hz'' sb => ?_⟩
    have hT2 := (sb.2 s.heap.objs.size (Nat.ne_of_gt zl)).trans hT
    have I1 : Inv X pins σ (upd H s.heap.objs.size (HO.th (tob [u1, u2]) [x, y])) { s with heap := h'', toks := tk } :=
      I.turnedNew (ch := [z, TI, TO, i1, i2]) (fun c o hb q => by
        simp only [List.mem_cons, List.not_mem_nil, or_false, not_or] at hb
        obtain ⟨n1, n2, n3, n4, n5⟩ := hb
        exact (sb.2 c n1).trans (hk c o n1 n3 n4 n5 q)) hf (Nat.le_refl _) (th_ok (by show 2 ≤ sizeLine; decide) (.cons r1 (.cons r2 .nil)) hT2)
    refine ⟨.ref s.heap.objs.size, _, I1, rfl, ⟨_, _, x, y, rfl, I.hok.fresh (Nat.le_refl _), rfl, rfl, fun l hl => by rw [k1.gives_inj I hl g1]; exact hx, fun l hl => by rw [k2.gives_inj I hl g2]; exact hy⟩, ⟨hz'', ?_, ⟨u1, u2, ?_⟩, (out1 _ _ st1).at fun o q => ?_, (out2 _ _ st2).at fun o q => ?_⟩, fun c hc => ?_⟩
    · exact (sb.2 _ S.sep.TIz).trans (hk _ _ S.sep.TIz S.sep.TITO S.sep.TIi1 S.sep.TIi2 hI)
    · exact (sb.2 _ S.sep.TOz).trans hO'
    · exact (sb.2 i1 (fun e => S.sep.zi1 e.symm)).trans q
    · exact (sb.2 i2 (fun e => S.sep.zi2 e.symm)).trans q
    · rw [upd_ne (Nat.ne_of_lt (zlt c hc))]
      exact (hf c hc).1
  done := by
    rintro X rfl rfl rfl hc i pins s σ H E I hf ⟨hz, hI, ⟨x0, y0, hO⟩, a1, a2⟩ ⟨xs, ys, g1, g2, hl1, hl2, hend⟩
    obtain ⟨P1, S1, D1, in1, out1, at1⟩ := k1.draws I hc g1 i1 S.n1
    obtain ⟨P2, S2, D2, in2, out2, at2⟩ := k2.draws I hc g2 i2 S.n2
    exact wpAny_pyNext_zipD2_end S.sep D1 D2 hz hI hO (in1 i a1) (in2 i a2) hl1 hl2 hend fun h' tk hk => ⟨rfl, I.turnedL (t' := tk) (ch := [z, TI, TO, i1, i2]) (fun c o hb q => by
      simp only [List.mem_cons, List.not_mem_nil, or_false, not_or] at hb
      obtain ⟨n1, n2, n3, n4, n5⟩ := hb
      exact hk c o n1 n3 n4 n5 q) hf⟩
  self := fun A i s Q E ⟨hz, _⟩ h => wpAny_pyIter_zip hz h
def Iz3 (K : PySem.W.Frag) (k1 k2 k3 : Kd) : It :=
  ⟨fun i H => ∃ xs ys zs x y u, k1.gives K H xs ∧ k2.gives K H ys ∧ k3.gives K H zs ∧ xs[i]? = some x ∧ ys[i]? = some y ∧ zs[i]? = some u,
    fun i H v H' => ∃ T o x y u, v = .ref T ∧ H T = none ∧ o.dict = none ∧ H' = upd H T (HO.th o [x, y, u]) ∧ (∀ xs, k1.gives K H xs → xs[i]? = some x) ∧ (∀ ys, k2.gives K H ys → ys[i]? = some y) ∧ ∀ zs, k3.gives K H zs → zs[i]? = some u,
    fun i H => ∃ xs ys zs, k1.gives K H xs ∧ k2.gives K H ys ∧ k3.gives K H zs ∧ i ≤ xs.length ∧ i ≤ ys.length ∧ i ≤ zs.length ∧ (i = xs.length ∨ i = ys.length ∨ i = zs.length)⟩
structure Zp3 (k1 k2 k3 : Kd) (z TI TO i1 i2 i3 : Addr) : Prop where
  sep : ZipSep3 z TI TO i1 i2 i3 (i1 :: k1.ad) (i2 :: k2.ad) (i3 :: k3.ad)
  n1 : i1 ∉ k1.ad
  n2 : i2 ∉ k2.ad
  n3 : i3 ∉ k3.ad
theorem turn_z3 {P : Program} {w : World} {K : PySem.W.Frag} {elts : List Expr} {kk : Nat} {tpos : Pos} (k1 k2 k3 : Kd) {z TI TO i1 i2 i3 : Addr} (S : Zp3 k1 k2 k3 z TI TO i1 i2 i3) :
    Turn P w K (.Tuple elts kk tpos) (Iz3 K k1 k2 k3) [z, TI, TO, i1, i2, i3] z (fun i h => IsZip h z TI TO .none ∧ IsTupOf3 h TI (.ref i1) (.ref i2) (.ref i3) ∧ (∃ x y u, IsTupOf3 h TO x y u) ∧ k1.At i1 i h ∧ k2.At i2 i h ∧ k3.At i3 i h) where
  mem := List.mem_cons_self
  obj := fun i h ⟨hz, hI, ⟨x, y, u, hO⟩, a1, a2, a3⟩ b hb => by
    obtain ⟨o1, v1, e1, d1⟩ := a1.rec'
    obtain ⟨o2, v2, e2, d2⟩ := a2.rec'
    obtain ⟨o3, v3, e3, d3⟩ := a3.rec'
    simp only [List.mem_cons, List.not_mem_nil, or_false] at hb
    rcases hb with rfl | rfl | rfl | rfl | rfl | rfl
    · exact ⟨_, hz, nofun⟩
    · exact ⟨_, hI, nofun⟩
    · exact ⟨_, hO, nofun⟩
    · exact ⟨o1, e1, fun v q => by rw [d1] at q; cases q⟩
    · exact ⟨o2, e2, fun v q => by rw [d2] at q; cases q⟩
    · exact ⟨o3, e3, fun v q => by rw [d3] at q; cases q⟩
  keep := fun i h h' ⟨hz, hI, ⟨x, y, u, hO⟩, a1, a2, a3⟩ kp => ⟨kp z (by simp) _ hz, kp TI (by simp) _ hI, ⟨x, y, u, kp TO (by simp) _ hO⟩, a1.at fun o => kp i1 (by simp) o, a2.at fun o => kp i2 (by simp) o, a3.at fun o => kp i3 (by simp) o⟩
  item := by
    rintro X rfl rfl rfl hc i pins s σ H E I hf ⟨hz, hI, ⟨x0, y0, u0, hO⟩, a1, a2, a3⟩ ⟨xs, ys, zs, x, y, u, g1, g2, g3, hx, hy, hu⟩
    obtain ⟨P1, S1, D1, in1, out1, at1⟩ := k1.draws I hc g1 i1 S.n1
    obtain ⟨P2, S2, D2, in2, out2, at2⟩ := k2.draws I hc g2 i2 S.n2
    obtain ⟨P3, S3, D3, in3, out3, at3⟩ := k3.draws I hc g3 i3 S.n3
    have hl1 : i < xs.length := (List.getElem?_eq_some_iff.mp hx).1
    have hl2 : i < ys.length := (List.getElem?_eq_some_iff.mp hy).1
    have hl3 : i < zs.length := (List.getElem?_eq_some_iff.mp hu).1
    obtain ⟨o1, v1, e1, d1⟩ := a1.rec'
    obtain ⟨o2, v2, e2, d2⟩ := a2.rec'
    obtain ⟨o3, v3, e3, d3⟩ := a3.rec'
    have zl := lt_of_get hz
    have zlt : ∀ c ∈ [z, TI, TO, i1, i2, i3], c < s.heap.objs.size := fun c hc => by
      simp only [List.mem_cons, List.not_mem_nil, or_false] at hc
      rcases hc with rfl | rfl | rfl | rfl | rfl | rfl
      · exact zl
      · exact lt_of_get hI
      · exact lt_of_get hO
      · exact lt_of_get e1
      · exact lt_of_get e2
      · exact lt_of_get e3
    refine wpAny_pyNext_zipD3_item S.sep D1 D2 D3 hz hI hO (in1 i a1) (in2 i a2) (in3 i a3) hl1 hl2 hl3 fun u1 u2 u3 h' tk p1 p2 p3 hz' hO' st1 st2 st3 hT hsz hk => ?_
    obtain ⟨y1, q1, r1⟩ := at1 i u1 p1
    obtain ⟨y2, q2, r2⟩ := at2 i u2 p2
    obtain ⟨y3, q3, r3⟩ := at3 i u3 p3
    obtain rfl : x = y1 := Option.some.inj (hx.symm.trans q1)
    obtain rfl : y = y2 := Option.some.inj (hy.symm.trans q2)
    obtain rfl : u = y3 := Option.some.inj (hu.symm.trans q3)
    refine ⟨_, rfl, wpAny_letOwnedTupleGo_zip (s := { s with heap := h', toks := tk }) hz' fun h'' hz'' sb => ?_⟩
    have hT2 := (sb.2 s.heap.objs.size (Nat.ne_of_gt zl)).trans hT
    have I1 : Inv X pins σ (upd H s.heap.objs.size (HO.th (tob [u1, u2, u3]) [x, y, u])) { s with heap := h'', toks := tk } :=
      I.turnedNew (ch := [z, TI, TO, i1, i2, i3]) (fun c o hb q => by
        simp only [List.mem_cons, List.not_mem_nil, or_false, not_or] at hb
        obtain ⟨n1, n2, n3, n4, n5, n6⟩ := hb
        exact (sb.2 c n1).trans (hk c o n1 n3 n4 n5 n6 q)) hf (Nat.le_refl _) (th_ok (by show 3 ≤ sizeLine; decide) (.cons r1 (.cons r2 (.cons r3 .nil))) hT2)
    refine ⟨.ref s.heap.objs.size, _, I1, rfl, ⟨_, _, x, y, u, rfl, I.hok.fresh (Nat.le_refl _), rfl, rfl, fun l hl => by rw [k1.gives_inj I hl g1]; exact hx, fun l hl => by rw [k2.gives_inj I hl g2]; exact hy, fun l hl => by rw [k3.gives_inj I hl g3]; exact hu⟩,
      ⟨hz'', ?_, ⟨u1, u2, u3, ?_⟩, (out1 _ _ st1).at fun o q => ?_, (out2 _ _ st2).at fun o q => ?_, (out3 _ _ st3).at fun o q => ?_⟩, fun c hc => ?_⟩
    · exact (sb.2 _ S.sep.TIz).trans (hk _ _ S.sep.TIz S.sep.TITO S.sep.TIi1 S.sep.TIi2 S.sep.TIi3 hI)
    · exact (sb.2 _ S.sep.TOz).trans hO'
    · exact (sb.2 i1 (fun e => S.sep.zi1 e.symm)).trans q
    · exact (sb.2 i2 (fun e => S.sep.zi2 e.symm)).trans q
    · exact (sb.2 i3 (fun e => S.sep.zi3 e.symm)).trans q
    · rw [upd_ne (Nat.ne_of_lt (zlt c hc))]
      exact (hf c hc).1
  done := by
    rintro X rfl rfl rfl hc i pins s σ H E I hf ⟨hz, hI, ⟨x0, y0, u0, hO⟩, a1, a2, a3⟩ ⟨xs, ys, zs, g1, g2, g3, hl1, hl2, hl3, hend⟩
    obtain ⟨P1, S1, D1, in1, out1, at1⟩ := k1.draws I hc g1 i1 S.n1
    obtain ⟨P2, S2, D2, in2, out2, at2⟩ := k2.draws I hc g2 i2 S.n2
    obtain ⟨P3, S3, D3, in3, out3, at3⟩ := k3.draws I hc g3 i3 S.n3
    exact wpAny_pyNext_zipD3_end S.sep D1 D2 D3 hz hI hO (in1 i a1) (in2 i a2) (in3 i a3) hl1 hl2 hl3 hend fun h' tk hk => ⟨rfl, I.turnedL (t' := tk) (ch := [z, TI, TO, i1, i2, i3]) (fun c o hb q => by
      simp only [List.mem_cons, List.not_mem_nil, or_false, not_or] at hb
      obtain ⟨n1, n2, n3, n4, n5, n6⟩ := hb
      exact hk c o n1 n3 n4 n5 n6 q) hf⟩
  self := fun A i s Q E ⟨hz, _⟩ h => wpAny_pyIter_zip hz h
section
variable {X : Cx} {tg e e2 e3 : Expr} {elts : List Expr} {kk : Nat} {p pos tpos : Pos}
theorem vals2 {a b : V} {us : List Value} (h : Vals [a, b] us) : ∃ u v, us = [u, v] ∧ RelV a u ∧ RelV b v := by
  cases h with
  | cons r t => cases t with
    | cons r2 t => cases t; exact ⟨_, _, rfl, r, r2⟩
theorem vals3 {a b c : V} {us : List Value} (h : Vals [a, b, c] us) : ∃ u v w, us = [u, v, w] ∧ RelV a u ∧ RelV b v ∧ RelV c w := by
  cases h with
  | cons r t => obtain ⟨v, w, rfl, r2, r3⟩ := vals2 t; exact ⟨_, _, _, rfl, r, r2, r3⟩
def iZip2 (K : PySem.W.Frag) (ta : TA) : TI := fun σ H R => ta σ H fun vs H1 => ∃ x y xs ys C1 C2, vs = [x, y] ∧ Src K H1 x xs C1 ∧ Src K H1 y ys C2 ∧ ∀ k1 k2, C1 k1 → C2 k2 → R (Iz2 K k1 k2) H1
theorem pi_zip2 {ta : TA} (hg : Gl X "zip") (hm : X.mg "zip" = none) (ha : PA X [e, e2] ta) (hs : starEach [e, e2] X.env = (false, eval e X.env) :: starEach [e2] X.env := by rfl) (hpl : (backTo pos (starEach [e2] X.env)).any (·.1) = false := by rfl) :
    PI X (.Tuple elts kk tpos) (.Call (.Name "zip" p) [e, e2] [] pos) (iZip2 X.K ta) := by
  refine ⟨fun pins s σ H R I h => ?_⟩
  refine Call_ (ld_blt I hg hm PyProof.Rows.boot_zip (PyProof.Rows.callWith_type1 (thn (ha.run pos pins s σ H _ I h) fun us s1 ⟨vs, H1, I1, r1, x, y, xs, ys, C1, C2, ev, sx, sy, q⟩ => ?_) hs hpl))
  subst ev
  obtain ⟨u, v, rfl, ru, rv⟩ := vals2 r1
  obtain ⟨k1, h1, rfl, g1⟩ := sx.kd ru
  obtain ⟨k2, h2, rfl, g2⟩ := sy.kd rv
  obtain ⟨Hs1, B1, hs1, lt1⟩ := k1.begins I1 g1
  obtain ⟨Hs2, B2, hs2, lt2⟩ := k2.begins I1 g2
  refine zip_begins2 B1 B2 hs1 hs2 fun h' hz hI hO e1 e2 hsz kp => wpAny_pyIter_zip hz ?_
  have no : ∀ {k : Kd} (j : Nat), (∀ b ∈ k.ad, b < s1.heap.objs.size) → (s1.heap.objs.size + j) ∉ k.ad := fun j hl hm => by
    have z : (s1.heap.objs.size + j : Nat) < s1.heap.objs.size := hl _ hm
    omega
  refine ⟨s1.heap.objs.size + 4, [s1.heap.objs.size + 4, s1.heap.objs.size + 2, s1.heap.objs.size + 3, s1.heap.objs.size, s1.heap.objs.size + 1], _, _, H1, rfl, I1.kept (t' := s1.toks) kp, turn_z2 k1 k2 ⟨zip_sep2 lt1 lt2, no 0 lt1, no 1 lt2⟩, ⟨hz, hI, ⟨_, _, hO⟩, Kd.start e1, Kd.start e2⟩, fun b hb => ?_, q k1 k2 h1 h2⟩
  have hle : s1.heap.objs.size ≤ b := by
    simp only [List.mem_cons, List.not_mem_nil, or_false] at hb
    rcases hb with z | z | z | z | z <;> (rw [z]; first | exact Nat.le_refl _ | exact Nat.le_add_right _ _)
  exact I1.fpOk hle (I1.hok.fresh hle)
def iZip3 (K : PySem.W.Frag) (ta : TA) : TI := fun σ H R => ta σ H fun vs H1 => ∃ x y z xs ys zs C1 C2 C3, vs = [x, y, z] ∧ Src K H1 x xs C1 ∧ Src K H1 y ys C2 ∧ Src K H1 z zs C3 ∧ ∀ k1 k2 k3, C1 k1 → C2 k2 → C3 k3 → R (Iz3 K k1 k2 k3) H1
theorem pi_zip3 {ta : TA} (hg : Gl X "zip") (hm : X.mg "zip" = none) (ha : PA X [e, e2, e3] ta) (hs : starEach [e, e2, e3] X.env = (false, eval e X.env) :: starEach [e2, e3] X.env := by rfl) (hpl : (backTo pos (starEach [e2, e3] X.env)).any (·.1) = false := by rfl) :
    PI X (.Tuple elts kk tpos) (.Call (.Name "zip" p) [e, e2, e3] [] pos) (iZip3 X.K ta) := by
  refine ⟨fun pins s σ H R I h => ?_⟩
  refine Call_ (ld_blt I hg hm PyProof.Rows.boot_zip (PyProof.Rows.callWith_type1 (thn (ha.run pos pins s σ H _ I h) fun us s1 ⟨vs, H1, I1, r1, x, y, z, xs, ys, zs, C1, C2, C3, ev, sx, sy, sz, q⟩ => ?_) hs hpl))
  subst ev
  obtain ⟨u, v, w, rfl, ru, rv, rw⟩ := vals3 r1
  obtain ⟨k1, h1, rfl, g1⟩ := sx.kd ru
  obtain ⟨k2, h2, rfl, g2⟩ := sy.kd rv
  obtain ⟨k3, h3, rfl, g3⟩ := sz.kd rw
  obtain ⟨Hs1, B1, hs1, lt1⟩ := k1.begins I1 g1
  obtain ⟨Hs2, B2, hs2, lt2⟩ := k2.begins I1 g2
  obtain ⟨Hs3, B3, hs3, lt3⟩ := k3.begins I1 g3
  refine zip_begins3 B1 B2 B3 hs1 hs2 hs3 fun h' hz hI hO e1 e2 e3 hsz kp => wpAny_pyIter_zip hz ?_
  have no : ∀ {k : Kd} (j : Nat), (∀ b ∈ k.ad, b < s1.heap.objs.size) → (s1.heap.objs.size + j) ∉ k.ad := fun j hl hm => by
    have z : (s1.heap.objs.size + j : Nat) < s1.heap.objs.size := hl _ hm
    omega
  refine ⟨s1.heap.objs.size + 5, [s1.heap.objs.size + 5, s1.heap.objs.size + 3, s1.heap.objs.size + 4, s1.heap.objs.size, s1.heap.objs.size + 1, s1.heap.objs.size + 2], _, _, H1, rfl, I1.kept (t' := s1.toks) kp, turn_z3 k1 k2 k3 ⟨zip_sep3 lt1 lt2 lt3, no 0 lt1, no 1 lt2, no 2 lt3⟩, ⟨hz, hI, ⟨_, _, _, hO⟩, Kd.start e1, Kd.start e2, Kd.start e3⟩, fun b hb => ?_, q k1 k2 k3 h1 h2 h3⟩
  have hle : s1.heap.objs.size ≤ b := by
    simp only [List.mem_cons, List.not_mem_nil, or_false] at hb
    rcases hb with z | z | z | z | z | z <;> (rw [z]; first | exact Nat.le_refl _ | exact Nat.le_add_right _ _)
  exact I1.fpOk hle (I1.hok.fresh hle)
end
end VL
set_option Elab.async false
set_option linter.all false
set_option maxRecDepth 100000
set_option maxHeartbeats 4000000
namespace VL
open PySem PySem.Spec PyProof.Rows L2
/-! ### the items of plain data -/
def signsD (x : Str) : List PyData := x.cps.toList.map fun c => PyData.str (mkS [c])
@[simp] def itemsOf : PyData → Option (List PyData)
  | .list xs => some xs
  | .tuple xs => some xs
  | .str x => some (signsD x)
  | _ => none
def enumP (xs : List PyData) : List PyData := xs.zipIdx.map fun p => .tuple [.int (p.2 : Nat), p.1]
def zip2P (xs ys : List PyData) : List PyData := (xs.zip ys).map fun p => .tuple [p.1, p.2]
def zip3P (xs ys zs : List PyData) : List PyData := (xs.zip (ys.zip zs)).map fun p => .tuple [p.1, p.2.1, p.2.2]
def rangeP (i : Int) (n : Nat) : List PyData := (List.range n).map fun k => .int (i + (k : Nat))
theorem enumP_get {xs : List PyData} {k : Nat} {d : PyData} (h : (enumP xs)[k]? = some d) : ∃ x, xs[k]? = some x ∧ d = .tuple [.int (k : Nat), x] := by
  unfold enumP at h
  rw [List.getElem?_map, List.getElem?_zipIdx] at h
  cases e : xs[k]? with
  | none => rw [e] at h; cases h
  | some x => rw [e] at h; cases h; exact ⟨x, rfl, by simp⟩
theorem zip2P_get {xs ys : List PyData} {k : Nat} {d : PyData} (h : (zip2P xs ys)[k]? = some d) : ∃ x y, xs[k]? = some x ∧ ys[k]? = some y ∧ d = .tuple [x, y] := by
  unfold zip2P at h
  rw [List.getElem?_map] at h
  cases e : (xs.zip ys)[k]? with
  | none => rw [e] at h; cases h
  | some x =>
    rw [e] at h; cases h
    rw [List.getElem?_zip_eq_some] at e
    exact ⟨x.1, x.2, e.1, e.2, rfl⟩
theorem zip3P_get {xs ys zs : List PyData} {k : Nat} {d : PyData} (h : (zip3P xs ys zs)[k]? = some d) : ∃ x y u, xs[k]? = some x ∧ ys[k]? = some y ∧ zs[k]? = some u ∧ d = .tuple [x, y, u] := by
  unfold zip3P at h
  rw [List.getElem?_map] at h
  cases e : (xs.zip (ys.zip zs))[k]? with
  | none => rw [e] at h; cases h
  | some x =>
    rw [e] at h; cases h
    rw [List.getElem?_zip_eq_some, List.getElem?_zip_eq_some] at e
    exact ⟨x.1, x.2.1, x.2.2, e.1, e.2.1, e.2.2, rfl⟩
theorem rangeP_get {i : Int} {n k : Nat} {d : PyData} (h : (rangeP i n)[k]? = some d) : k < n ∧ d = .int (i + (k : Nat)) := by
  unfold rangeP at h
  rw [List.getElem?_map] at h
  by_cases hk : k < n
  · rw [List.getElem?_range hk] at h; cases h; exact ⟨hk, rfl⟩
  · rw [List.getElem?_eq_none (by simp; omega)] at h; cases h
/-! ### the walks, over data -/
section
variable {b : Bg} {Y Z : Addr → Prop} {H : Hp} {K : PySem.W.Frag}
theorem rqs_signs {x : Str} : Rqs Z H (signs x) (signsD x) := by
  unfold signs signsD
  induction x.cps.toList with
  | nil => exact .nil
  | cons c l ih => exact .cons (.str _) ih
/-- a source: what stands there, and stays -/
structure SrcD (K : PySem.W.Frag) (Y Z : Addr → Prop) (H : Hp) (v : V) (xs : List PyData) (vs : List V) (C : Kd → Prop) : Prop where
  src : Src K H v vs C
  rq : Rqs Z H vs xs
  stay : ∀ k, C k → ∀ H2 : Hp, (∀ a o, H a = some o → ¬ Y a → H2 a = some o) → k.gives K H2 vs
theorem srcD {v : V} {p : PyData} {xs : List PyData} (r : Rb b Z H v (.py p)) (hn : ∀ a, v = .ref a → ¬ Y a) (e : itemsOf p = some xs) : ∃ vs C, SrcD K Y Z H v xs vs C := by
  cases p with
  | list ds =>
    cases e
    obtain ⟨a, us, rfl, ha, q⟩ := r.list
    exact ⟨us, _, .l (SqL.of ha), q, fun k hk H2 h2 => by rw [hk]; exact SqL.of (h2 a _ ha (hn a rfl))⟩
  | tuple ds =>
    cases e
    obtain ⟨a, o, us, rfl, ha, ho, na, q⟩ := r.tuple
    exact ⟨us, _, .t (SqT.th ha), q, fun k hk H2 h2 => by rw [hk]; exact SqT.th (h2 a _ ha (hn a rfl))⟩
  | str x =>
    cases e
    have ev := r.str
    subst ev
    exact ⟨signs x, _, .s, rqs_signs, fun k hk H2 h2 => by obtain ⟨t, rfl⟩ := hk; rfl⟩
  | _ => cases e
/-- what a source has at k -/
theorem SrcD.at {v : V} {xs : List PyData} {vs : List V} {C : Kd → Prop} (s : SrcD K Y Z H v xs vs C) (hY : ∀ a, ¬ Z a → ¬ Y a) {k : Nat} {d : PyData} (h : xs[k]? = some d) {H2 : Hp} (h2 : ∀ a o, H a = some o → ¬ Y a → H2 a = some o) :
    ∃ x, vs[k]? = some x ∧ ∀ Z2 : Addr → Prop, (∀ a, Z2 a → Z a ∨ H a = none) → Rq Z2 H2 x d := by
  obtain ⟨x, hx, r⟩ := s.rq.get h
  exact ⟨x, hx, fun Z2 hz => r.mono hz fun a o e n => h2 a o e (hY a n)⟩
theorem Rq.new2 {Z2 : Addr → Prop} {H2 : Hp} {T : Addr} {o : Obj} {vs : List V} {ds : List PyData} (hT : H2 T = none) (ho : o.dict = none) (hz : ∀ a, Z2 a → H2 a ≠ none) (r : Rqs Z2 H2 vs ds) : Rq Z2 (upd H2 T (HO.th o vs)) (.ref T) (.tuple ds) :=
  .tup upd_same ho (fun z => hz T z hT) (r.up hT)
theorem wk_src {v : V} {xs : List PyData} {vs : List V} {C : Kd → Prop} (s : SrcD K Y Z H v xs vs C) (hY : ∀ a, ¬ Z a → ¬ Y a) {k : Kd} (hk : C k) : Wk b Y Z H (Itk K k) (xs.map D.py) where
  go := fun i d H2 hd h2 g => by
    rw [List.getElem?_map] at hd
    cases e : xs[i]? with
    | none => rw [e] at hd; cases hd
    | some p =>
      rw [e] at hd; cases hd
      obtain ⟨x, hx, r⟩ := s.at hY e h2
      have gv := s.stay k hk H2 h2
      refine ⟨⟨vs, x, gv, hx⟩, fun v H3 y => ?_⟩
      obtain ⟨eH, y⟩ := y
      subst eH
      have : x = v := Option.some.inj (hx.symm.trans (y vs gv))
      subst this
      exact ⟨Ex.refl, g, fun Z2 hz _ => r Z2 hz⟩
  stop := fun i H2 hl h2 => ⟨vs, s.stay k hk H2 h2, by rw [s.rq.length, ← hl, List.length_map]; exact Nat.le_refl _⟩
theorem wk_enum {v : V} {xs : List PyData} {vs : List V} {C : Kd → Prop} (s : SrcD K Y Z H v xs vs C) (hY : ∀ a, ¬ Z a → ¬ Y a) {k : Kd} (hk : C k) : Wk b Y Z H (Iek K k) ((enumP xs).map D.py) where
  go := fun i d H2 hd h2 g => by
    rw [List.getElem?_map] at hd
    cases e : (enumP xs)[i]? with
    | none => rw [e] at hd; cases hd
    | some p =>
      rw [e] at hd; cases hd
      obtain ⟨q, hq, rfl⟩ := enumP_get e
      obtain ⟨x, hx, r⟩ := s.at hY hq h2
      have gv := s.stay k hk H2 h2
      refine ⟨⟨vs, x, gv, hx⟩, fun v H3 y => ?_⟩
      obtain ⟨T, o, x', rfl, hT, ho, eH, y⟩ := y
      subst eH
      have : x = x' := Option.some.inj (hx.symm.trans (y vs gv))
      subst this
      exact ⟨Ex.new hT, Bg.new g hT, fun Z2 hz h3 => Rq.new2 hT ho h3 (.cons (.int _) (.cons (r Z2 hz) .nil))⟩
  stop := fun i H2 hl h2 => ⟨vs, s.stay k hk H2 h2, by rw [s.rq.length, ← hl]; simp [enumP]⟩
theorem wk_zip2 {v w : V} {xs ys : List PyData} {vs ws : List V} {C1 C2 : Kd → Prop} (s : SrcD K Y Z H v xs vs C1) (t : SrcD K Y Z H w ys ws C2) (hY : ∀ a, ¬ Z a → ¬ Y a) {k1 k2 : Kd} (h1 : C1 k1) (hk2 : C2 k2) : Wk b Y Z H (Iz2 K k1 k2) ((zip2P xs ys).map D.py) where
  go := fun i d H2 hd h2 g => by
    rw [List.getElem?_map] at hd
    cases e : (zip2P xs ys)[i]? with
    | none => rw [e] at hd; cases hd
    | some p =>
      rw [e] at hd; cases hd
      obtain ⟨q, q', hq, hq', rfl⟩ := zip2P_get e
      obtain ⟨x, hx, r⟩ := s.at hY hq h2
      obtain ⟨u, hu, r'⟩ := t.at hY hq' h2
      have gv := s.stay k1 h1 H2 h2
      have gu := t.stay k2 hk2 H2 h2
      refine ⟨⟨vs, ws, x, u, gv, gu, hx, hu⟩, fun v H3 y => ?_⟩
      obtain ⟨T, o, x', u', rfl, hT, ho, eH, y1, y2⟩ := y
      subst eH
      have : x = x' := Option.some.inj (hx.symm.trans (y1 vs gv))
      subst this
      have : u = u' := Option.some.inj (hu.symm.trans (y2 ws gu))
      subst this
      exact ⟨Ex.new hT, Bg.new g hT, fun Z2 hz h3 => Rq.new2 hT ho h3 (.cons (r Z2 hz) (.cons (r' Z2 hz) .nil))⟩
  stop := fun i H2 hl h2 => by
    have e : min xs.length ys.length = i := by rw [← hl]; simp [zip2P]
    refine ⟨vs, ws, s.stay k1 h1 H2 h2, t.stay k2 hk2 H2 h2, ?_⟩
    rw [s.rq.length, t.rq.length]
    omega
theorem wk_zip3 {v w z : V} {xs ys zs : List PyData} {vs ws us : List V} {C1 C2 C3 : Kd → Prop} (s : SrcD K Y Z H v xs vs C1) (t : SrcD K Y Z H w ys ws C2) (m : SrcD K Y Z H z zs us C3) (hY : ∀ a, ¬ Z a → ¬ Y a) {k1 k2 k3 : Kd} (h1 : C1 k1) (hk2 : C2 k2) (hk3 : C3 k3) : Wk b Y Z H (Iz3 K k1 k2 k3) ((zip3P xs ys zs).map D.py) where
  go := fun i d H2 hd h2 g => by
    rw [List.getElem?_map] at hd
    cases e : (zip3P xs ys zs)[i]? with
    | none => rw [e] at hd; cases hd
    | some p =>
      rw [e] at hd; cases hd
      obtain ⟨q, q', q'', hq, hq', hq'', rfl⟩ := zip3P_get e
      obtain ⟨x, hx, r⟩ := s.at hY hq h2
      obtain ⟨u, hu, r'⟩ := t.at hY hq' h2
      obtain ⟨c, hc, r''⟩ := m.at hY hq'' h2
      have gv := s.stay k1 h1 H2 h2
      have gu := t.stay k2 hk2 H2 h2
      have gc := m.stay k3 hk3 H2 h2
      refine ⟨⟨vs, ws, us, x, u, c, gv, gu, gc, hx, hu, hc⟩, fun v H3 y => ?_⟩
      obtain ⟨T, o, x', u', c', rfl, hT, ho, eH, y1, y2, y3⟩ := y
      subst eH
      have : x = x' := Option.some.inj (hx.symm.trans (y1 vs gv))
      subst this
      have : u = u' := Option.some.inj (hu.symm.trans (y2 ws gu))
      subst this
      have : c = c' := Option.some.inj (hc.symm.trans (y3 us gc))
      subst this
      exact ⟨Ex.new hT, Bg.new g hT, fun Z2 hz h3 => Rq.new2 hT ho h3 (.cons (r Z2 hz) (.cons (r' Z2 hz) (.cons (r'' Z2 hz) .nil)))⟩
  stop := fun i H2 hl h2 => by
    have e : min xs.length (min ys.length zs.length) = i := by rw [← hl]; simp [zip3P]
    refine ⟨vs, ws, us, s.stay k1 h1 H2 h2, t.stay k2 hk2 H2 h2, m.stay k3 hk3 H2 h2, ?_⟩
    rw [s.rq.length, t.rq.length, m.rq.length]
    omega
theorem wk_range {lo : Int} {n : Nat} : Wk b Y Z H (Itr lo n) ((rangeP lo n).map D.py) where
  go := fun i d H2 hd h2 g => by
    rw [List.getElem?_map] at hd
    cases e : (rangeP lo n)[i]? with
    | none => rw [e] at hd; cases hd
    | some p =>
      rw [e] at hd; cases hd
      obtain ⟨hlt, rfl⟩ := rangeP_get e
      refine ⟨hlt, fun v H3 y => ?_⟩
      obtain ⟨eH, y⟩ := y
      subst eH y
      exact ⟨Ex.refl, g, fun Z2 hz _ => .int _⟩
  stop := fun i H2 hl h2 => by
    have e : n = i := by rw [← hl]; simp [rangeP]
    rw [e]
    exact Nat.le_refl _
end
/-! ### iterators as judgements -/
@[simp] def asO {α : Type} : Option α → (α → Prop) → Prop
  | some a, Q => Q a
  | none, _ => False
theorem asO_ex {α : Type} : ∀ {o : Option α} {Q : α → Prop}, asO o Q → ∃ a, o = some a ∧ Q a
  | some a, _, h => ⟨a, rfl, h⟩
@[simp] def asS : D → (List D → Prop) → Prop
  | .py p, Q => asO (itemsOf p) fun xs => Q (xs.map D.py)
  | _, _ => False
@[simp] def asEn : List D → (List D → Prop) → Prop
  | [.py p], Q => asO (itemsOf p) fun xs => Q ((enumP xs).map D.py)
  | _, _ => False
@[simp] def asZ2 : List D → (List D → Prop) → Prop
  | [.py p, .py q], Q => asO (itemsOf p) fun xs => asO (itemsOf q) fun ys => Q ((zip2P xs ys).map D.py)
  | _, _ => False
@[simp] def asZ3 : List D → (List D → Prop) → Prop
  | [.py p, .py q, .py r], Q => asO (itemsOf p) fun xs => asO (itemsOf q) fun ys => asO (itemsOf r) fun zs => Q ((zip3P xs ys zs).map D.py)
  | _, _ => False
abbrev small62 (i : Int) : Prop := -(2 ^ 62) ≤ i ∧ i < 2 ^ 62
@[simp] theorem small62_nat (n : Nat) : small62 (n : Int) ↔ n < 4611686018427387904 := by unfold small62; omega
@[simp] def asR1 : List D → (List D → Prop) → Prop
  | [.py (.int i)], Q => small62 i ∧ Q ((rangeP 0 i.toNat).map D.py)
  | _, _ => False
@[simp] def asR2 : List D → (List D → Prop) → Prop
  | [.py (.int i), .py (.int j)], Q => (small62 i ∧ small62 j) ∧ Q ((rangeP i (j - i).toNat).map D.py)
  | _, _ => False
theorem asS_ex : ∀ {d : D} {Q : List D → Prop}, asS d Q → ∃ p xs, d = .py p ∧ itemsOf p = some xs ∧ Q (xs.map D.py)
  | .py p, _, h => let ⟨xs, e, q⟩ := asO_ex h; ⟨p, xs, rfl, e, q⟩
theorem asEn_ex : ∀ {d : List D} {Q : List D → Prop}, asEn d Q → ∃ p xs, d = [.py p] ∧ itemsOf p = some xs ∧ Q ((enumP xs).map D.py)
  | [.py p], _, h => let ⟨xs, e, q⟩ := asO_ex h; ⟨p, xs, rfl, e, q⟩
theorem asZ2_ex : ∀ {d : List D} {Q : List D → Prop}, asZ2 d Q → ∃ p xs q ys, d = [.py p, .py q] ∧ itemsOf p = some xs ∧ itemsOf q = some ys ∧ Q ((zip2P xs ys).map D.py)
  | [.py p, .py q], _, h => let ⟨xs, e, h⟩ := asO_ex h; let ⟨ys, e2, h⟩ := asO_ex h; ⟨p, xs, q, ys, rfl, e, e2, h⟩
theorem asZ3_ex : ∀ {d : List D} {Q : List D → Prop}, asZ3 d Q → ∃ p xs q ys r zs, d = [.py p, .py q, .py r] ∧ itemsOf p = some xs ∧ itemsOf q = some ys ∧ itemsOf r = some zs ∧ Q ((zip3P xs ys zs).map D.py)
  | [.py p, .py q, .py r], _, h => let ⟨xs, e, h⟩ := asO_ex h; let ⟨ys, e2, h⟩ := asO_ex h; let ⟨zs, e3, h⟩ := asO_ex h; ⟨p, xs, q, ys, r, zs, rfl, e, e2, e3, h⟩
theorem asR1_ex : ∀ {d : List D} {Q : List D → Prop}, asR1 d Q → ∃ i, d = [.py (.int i)] ∧ small62 i ∧ Q ((rangeP 0 i.toNat).map D.py)
  | [.py (.int i)], _, h => ⟨i, rfl, h⟩
theorem asR2_ex : ∀ {d : List D} {Q : List D → Prop}, asR2 d Q → ∃ i j, d = [.py (.int i), .py (.int j)] ∧ (small62 i ∧ small62 j) ∧ Q ((rangeP i (j - i).toNat).map D.py)
  | [.py (.int i), .py (.int j)], _, h => ⟨i, j, rfl, h⟩
@[simp] def iS (t : VT) : VIt := fun ρ Q E => t ρ (fun d => asS d Q) E
@[simp] def iEn (t : VA) : VIt := fun ρ Q E => t ρ (fun d => asEn d Q) E
@[simp] def iZ2 (t : VA) : VIt := fun ρ Q E => t ρ (fun d => asZ2 d Q) E
@[simp] def iZ3 (t : VA) : VIt := fun ρ Q E => t ρ (fun d => asZ3 d Q) E
@[simp] def iR1 (t : VA) : VIt := fun ρ Q E => t ρ (fun d => asR1 d Q) E
@[simp] def iR2 (t : VA) : VIt := fun ρ Q E => t ρ (fun d => asR2 d Q) E
theorem pi_mono {X : Cx} {tg iter : Expr} {t t' : TI} (h : PI X tg iter t) (m : ∀ σ H R, t' σ H R → t σ H R) : PI X tg iter t' := ⟨fun pins s σ H R I q => h.run pins s σ H R I (m σ H R q)⟩
section
variable {X : Cx} {b : Bg} {W : WX} {tg e e1 e2 e3 : Expr} {elts : List Expr} {kk : Nat} {t t1 t2 t3 : VT} {p pos tpos : Pos}
theorem Rp.ref {Z : Addr → Prop} {H : Hp} {v : V} {p : PyData} (r : Rp b Z H v (.py p)) : ∀ a, v = .ref a → ¬ Z a := fun a e => by
  subst e
  cases r <;> assumption
theorem Rb.ref {Z : Addr → Prop} {H : Hp} {v : V} {p : PyData} (g : Gd b Z H) (r : Rb b Z H v (.py p)) : ∀ a, v = .ref a → ¬ b.B a := fun a e => by
  rcases r with r | ⟨c, e1, n, _⟩
  · exact fun z => Rp.ref r a e (g.zb a z)
  · rw [e] at e1; cases e1; exact n
/-- a loop -/
theorem vi_src (h : VE X b W e t) : VI X b W tg e (iS t) := pi_mono (pi_src h) fun σ H R ⟨Zo, Z, ρ, Qd, Ed, v, q, l, m⟩ =>
  ⟨Zo, Z, ρ, _, Ed, v, q, fun x H1 d x1 g1 r1 hh => by
    obtain ⟨p, xs, ed, ei, q1⟩ := asS_ex hh
    subst ed
    obtain ⟨vs, C, s⟩ := srcD (K := X.K) (Y := Z) (.inl r1) (Rp.ref r1) ei
    exact ⟨vs, C, s.src, fun k hk => l _ H1 _ x1 g1 (wk_src s (fun _ n => n) hk) q1⟩, m⟩
theorem vib_src (h : VX X b W e t) : VIb X b W tg e (iS t) := pi_mono (pi_src h) fun σ H R ⟨Zo, Z, ρ, Qd, Ed, v, q, l, m⟩ =>
  ⟨Zo, Z, ρ, _, Ed, v, q, fun x H1 d x1 g1 r1 hh => by
    obtain ⟨p, xs, ed, ei, q1⟩ := asS_ex hh
    subst ed
    have gd := (v.ex x1 g1).gd
    obtain ⟨vs, C, s⟩ := srcD (K := X.K) (Y := b.B) r1 (Rb.ref gd r1) ei
    exact ⟨vs, C, s.src, fun k hk => l _ H1 _ x1 g1 (wk_src s (fun _ n z => n (gd.zb _ z)) hk) q1⟩, m⟩
theorem rbs1 {Z : Addr → Prop} {H : Hp} {v : List V} {d : D} (r : Rps b Z H v [d]) : ∃ x, v = [x] ∧ Rp b Z H x d := by
  cases r with
  | cons r t => cases t; exact ⟨_, rfl, r⟩
theorem rbs2 {Z : Addr → Prop} {H : Hp} {v : List V} {d d2 : D} (r : Rps b Z H v [d, d2]) : ∃ x y, v = [x, y] ∧ Rp b Z H x d ∧ Rp b Z H y d2 := by
  cases r with
  | cons r t => obtain ⟨y, rfl, r2⟩ := rbs1 t; exact ⟨_, y, rfl, r, r2⟩
theorem rbs3 {Z : Addr → Prop} {H : Hp} {v : List V} {d d2 d3 : D} (r : Rps b Z H v [d, d2, d3]) : ∃ x y z, v = [x, y, z] ∧ Rp b Z H x d ∧ Rp b Z H y d2 ∧ Rp b Z H z d3 := by
  cases r with
  | cons r t => obtain ⟨y, z, rfl, r2, r3⟩ := rbs2 t; exact ⟨_, y, z, rfl, r, r2, r3⟩
theorem Rbs.three {Z : Addr → Prop} {H : Hp} {v : List V} {d d2 d3 : D} (r : Rbs b Z H v [d, d2, d3]) : ∃ x y z, v = [x, y, z] ∧ Rb b Z H x d ∧ Rb b Z H y d2 ∧ Rb b Z H z d3 := by
  cases r with
  | cons r t => obtain ⟨y, z, rfl, r2, r3⟩ := Rbs.two t; exact ⟨_, y, z, rfl, r, r2, r3⟩
variable {ta : VA}
theorem vi_enum (hg : Gl X "enumerate") (hm : X.mg "enumerate" = none) (h : VAs X b W [e] ta) (hs : starEach [e] X.env = [(false, eval e X.env)] := by rfl) : VI X b W (.Tuple elts kk tpos) (.Call (.Name "enumerate" p) [e] [] pos) (iEn ta) :=
  pi_mono (pi_enumS hg hm h hs) fun σ H R ⟨Zo, Z, ρ, Qd, Ed, v, q, l, m⟩ =>
    ⟨Zo, Z, ρ, _, Ed, v, q, fun x H1 d x1 g1 r1 hh => by
      obtain ⟨p, xs, ed, ei, q1⟩ := asEn_ex hh
      subst ed
      obtain ⟨w, rfl, r2⟩ := rbs1 r1
      obtain ⟨vs, C, s⟩ := srcD (K := X.K) (Y := Z) (.inl r2) (Rp.ref r2) ei
      exact ⟨w, vs, C, rfl, s.src, fun k hk => l _ H1 _ x1 g1 (wk_enum s (fun _ n => n) hk) q1⟩, m⟩
theorem vib_enum (hg : Gl X "enumerate") (hm : X.mg "enumerate" = none) (h : VXs X b W [e] ta) (hs : starEach [e] X.env = [(false, eval e X.env)] := by rfl) : VIb X b W (.Tuple elts kk tpos) (.Call (.Name "enumerate" p) [e] [] pos) (iEn ta) :=
  pi_mono (pi_enumS hg hm h hs) fun σ H R ⟨Zo, Z, ρ, Qd, Ed, v, q, l, m⟩ =>
    ⟨Zo, Z, ρ, _, Ed, v, q, fun x H1 d x1 g1 r1 hh => by
      obtain ⟨p, xs, ed, ei, q1⟩ := asEn_ex hh
      subst ed
      have gd := (v.ex x1 g1).gd
      obtain ⟨w, rfl, r2⟩ := Rbs.one r1
      obtain ⟨vs, C, s⟩ := srcD (K := X.K) (Y := b.B) r2 (Rb.ref gd r2) ei
      exact ⟨w, vs, C, rfl, s.src, fun k hk => l _ H1 _ x1 g1 (wk_enum s (fun _ n z => n (gd.zb _ z)) hk) q1⟩, m⟩
theorem vi_zip2 (hg : Gl X "zip") (hm : X.mg "zip" = none) (h : VAs X b W [e, e2] ta) (hs : starEach [e, e2] X.env = (false, eval e X.env) :: starEach [e2] X.env := by rfl) (hpl : (backTo pos (starEach [e2] X.env)).any (·.1) = false := by rfl) :
    VI X b W (.Tuple elts kk tpos) (.Call (.Name "zip" p) [e, e2] [] pos) (iZ2 ta) :=
  pi_mono (pi_zip2 hg hm h hs hpl) fun σ H R ⟨Zo, Z, ρ, Qd, Ed, v, q, l, m⟩ =>
    ⟨Zo, Z, ρ, _, Ed, v, q, fun x H1 d x1 g1 r1 hh => by
      obtain ⟨p, xs, q, ys, ed, ei, ej, q1⟩ := asZ2_ex hh
      subst ed
      obtain ⟨w, y, rfl, r1, r2⟩ := rbs2 r1
      obtain ⟨vs, C, s⟩ := srcD (K := X.K) (Y := Z) (.inl r1) (Rp.ref r1) ei
      obtain ⟨vs2, C2, s2⟩ := srcD (K := X.K) (Y := Z) (.inl r2) (Rp.ref r2) ej
      exact ⟨w, y, vs, vs2, C, C2, rfl, s.src, s2.src, fun k k2 hk hk2 => l _ H1 _ x1 g1 (wk_zip2 s s2 (fun _ n => n) hk hk2) q1⟩, m⟩
theorem vi_zip3 (hg : Gl X "zip") (hm : X.mg "zip" = none) (h : VAs X b W [e, e2, e3] ta) (hs : starEach [e, e2, e3] X.env = (false, eval e X.env) :: starEach [e2, e3] X.env := by rfl) (hpl : (backTo pos (starEach [e2, e3] X.env)).any (·.1) = false := by rfl) :
    VI X b W (.Tuple elts kk tpos) (.Call (.Name "zip" p) [e, e2, e3] [] pos) (iZ3 ta) :=
  pi_mono (pi_zip3 hg hm h hs hpl) fun σ H R ⟨Zo, Z, ρ, Qd, Ed, v, q, l, m⟩ =>
    ⟨Zo, Z, ρ, _, Ed, v, q, fun x H1 d x1 g1 r1 hh => by
      obtain ⟨p, xs, q, ys, r, zs, ed, ei, ej, ek, q1⟩ := asZ3_ex hh
      subst ed
      obtain ⟨w, y, z, rfl, r1, r2, r3⟩ := rbs3 r1
      obtain ⟨vs, C, s⟩ := srcD (K := X.K) (Y := Z) (.inl r1) (Rp.ref r1) ei
      obtain ⟨vs2, C2, s2⟩ := srcD (K := X.K) (Y := Z) (.inl r2) (Rp.ref r2) ej
      obtain ⟨vs3, C3, s3⟩ := srcD (K := X.K) (Y := Z) (.inl r3) (Rp.ref r3) ek
      exact ⟨w, y, z, vs, vs2, vs3, C, C2, C3, rfl, s.src, s2.src, s3.src, fun k k2 k3 hk hk2 hk3 => l _ H1 _ x1 g1 (wk_zip3 s s2 s3 (fun _ n => n) hk hk2 hk3) q1⟩, m⟩
theorem vib_zip3 (hg : Gl X "zip") (hm : X.mg "zip" = none) (h : VXs X b W [e, e2, e3] ta) (hs : starEach [e, e2, e3] X.env = (false, eval e X.env) :: starEach [e2, e3] X.env := by rfl) (hpl : (backTo pos (starEach [e2, e3] X.env)).any (·.1) = false := by rfl) :
    VIb X b W (.Tuple elts kk tpos) (.Call (.Name "zip" p) [e, e2, e3] [] pos) (iZ3 ta) :=
  pi_mono (pi_zip3 hg hm h hs hpl) fun σ H R ⟨Zo, Z, ρ, Qd, Ed, v, q, l, m⟩ =>
    ⟨Zo, Z, ρ, _, Ed, v, q, fun x H1 d x1 g1 r1 hh => by
      obtain ⟨p, xs, q, ys, r, zs, ed, ei, ej, ek, q1⟩ := asZ3_ex hh
      subst ed
      have gd := (v.ex x1 g1).gd
      obtain ⟨w, y, z, rfl, r1, r2, r3⟩ := Rbs.three r1
      obtain ⟨vs, C, s⟩ := srcD (K := X.K) (Y := b.B) r1 (Rb.ref gd r1) ei
      obtain ⟨vs2, C2, s2⟩ := srcD (K := X.K) (Y := b.B) r2 (Rb.ref gd r2) ej
      obtain ⟨vs3, C3, s3⟩ := srcD (K := X.K) (Y := b.B) r3 (Rb.ref gd r3) ek
      exact ⟨w, y, z, vs, vs2, vs3, C, C2, C3, rfl, s.src, s2.src, s3.src, fun k k2 k3 hk hk2 hk3 => l _ H1 _ x1 g1 (wk_zip3 s s2 s3 (fun _ n z => n (gd.zb _ z)) hk hk2 hk3) q1⟩, m⟩
theorem pi_rng1 {Yf : (Addr → Prop) → Addr → Prop} (hg : Gl X "range") (hm : X.mg "range" = none) (h : VXs X b W [e] ta) (hs : starEach [e] X.env = [(false, eval e X.env)] := by rfl) : PI X tg (.Call (.Name "range" p) [e] [] pos) (LI b W Yf (iR1 ta)) :=
  pi_mono (pi_range1 hg hm h hs) fun σ H R ⟨Zo, Z, ρ, Qd, Ed, v, q, l, m⟩ =>
    ⟨Zo, Z, ρ, _, Ed, v, q, fun x H1 d x1 g1 r1 hh => by
      obtain ⟨i, ed, ⟨i1, i2⟩, q1⟩ := asR1_ex hh
      subst ed
      obtain ⟨w, rfl, r2⟩ := Rbs.one r1
      exact ⟨i, by rw [r2.int], i1, i2, l _ H1 _ x1 g1 wk_range q1⟩, m⟩
theorem pi_rng2 {Yf : (Addr → Prop) → Addr → Prop} (hg : Gl X "range") (hm : X.mg "range" = none) (h : VXs X b W [e1, e2] ta) (hs : starEach [e1, e2] X.env = [(false, eval e1 X.env), (false, eval e2 X.env)] := by rfl) (hs2 : starEach [e2] X.env = [(false, eval e2 X.env)] := by rfl) :
    PI X tg (.Call (.Name "range" p) [e1, e2] [] pos) (LI b W Yf (iR2 ta)) :=
  pi_mono (pi_range2 hg hm h hs hs2) fun σ H R ⟨Zo, Z, ρ, Qd, Ed, v, q, l, m⟩ =>
    ⟨Zo, Z, ρ, _, Ed, v, q, fun x H1 d x1 g1 r1 hh => by
      obtain ⟨i, j, ed, ⟨⟨i1, i2⟩, j1, j2⟩, q1⟩ := asR2_ex hh
      subst ed
      obtain ⟨w, y, rfl, r1, r2⟩ := Rbs.two r1
      exact ⟨i, j, by rw [r1.int, r2.int], ⟨i1, i2, j1, j2⟩, l _ H1 _ x1 g1 wk_range q1⟩, m⟩
theorem vi_range1 (hg : Gl X "range") (hm : X.mg "range" = none) (h : VXs X b W [e] ta) (hs : starEach [e] X.env = [(false, eval e X.env)] := by rfl) : VI X b W tg (.Call (.Name "range" p) [e] [] pos) (iR1 ta) := pi_rng1 hg hm h hs
theorem vib_range1 (hg : Gl X "range") (hm : X.mg "range" = none) (h : VXs X b W [e] ta) (hs : starEach [e] X.env = [(false, eval e X.env)] := by rfl) : VIb X b W tg (.Call (.Name "range" p) [e] [] pos) (iR1 ta) := pi_rng1 hg hm h hs
theorem vib_range2 (hg : Gl X "range") (hm : X.mg "range" = none) (h : VXs X b W [e1, e2] ta) (hs : starEach [e1, e2] X.env = [(false, eval e1 X.env), (false, eval e2 X.env)] := by rfl) (hs2 : starEach [e2] X.env = [(false, eval e2 X.env)] := by rfl) :
    VIb X b W tg (.Call (.Name "range" p) [e1, e2] [] pos) (iR2 ta) := pi_rng2 hg hm h hs hs2
end
end VL
set_option Elab.async false
set_option linter.all false
set_option maxRecDepth 100000
set_option maxHeartbeats 4000000
namespace VL
open PySem PySem.Spec PyProof.Rows L2
/-! ### from a loop's start on -/
section
variable {b : Bg} {W : WX} {H0 : Hp} {M Zo Z Z' : Addr → Prop} {σ σ' : L2.St} {H H' : Hp} {ρ ρ' : VEnv} {De : VEnds} {Dn : Ends}
/-- what a loop may write: its def's own objects -/
abbrev Mo (Zo Z : Addr → Prop) : Addr → Prop := fun a => Z a ∧ ¬ Zo a
theorem VOk.here (v : VOk b Zo Z σ H ρ) : FOk b H (Mo Zo Z) Zo Z σ H ρ :=
  ⟨v, fun _ _ e _ _ => e, fun i d a h1 h2 => by
    obtain ⟨c, h3, h4, h5, _⟩ := v.own i d h1
    rw [h2] at h3; cases h3
    exact .inl ⟨h4, h5⟩⟩
theorem FOk.mine (f : FOk b H0 M Zo Z σ H ρ) {a : Addr} (h : Mo Zo Z a) : M a ∨ H0 a = none := by
  rcases f.v.zi a h.1 with z | ⟨i, d, h1, h2⟩
  · exact absurd z h.2
  · exact f.fr i d a h1 h2
theorem FOk.extBack (f : FOk b H0 M Zo Z σ H ρ) (x : ∀ a o, H a = some o → ¬ b.B a → ¬ Mo Zo Z a → H' a = some o) : ∀ a o, H0 a = some o → ¬ b.B a → ¬ M a → H' a = some o := fun a o e nb nm =>
  x a o (f.ext a o e nb nm) nb fun mo => by
    rcases f.mine mo with z | z
    · exact nm z
    · rw [e] at z; cases z
theorem FOk.back (f : FOk b H0 M Zo Z σ H ρ) (f' : FOk b H (Mo Zo Z) Zo Z' σ' H' ρ') : FOk b H0 M Zo Z' σ' H' ρ' :=
  ⟨f'.v, f.extBack f'.ext, fun i d a h1 h2 => by
    rcases f'.fr i d a h1 h2 with z | z
    · exact f.mine z
    · cases q : H0 a with
      | none => exact .inr rfl
      | some o =>
        by_cases hb : b.B a
        · exact absurd z (b.dom _ _ f.v.g hb)
        · by_cases hm : M a
          · exact .inl hm
          · rw [f.ext a o q hb hm] at z; cases z⟩
theorem FOk.frBack (f : FOk b H0 M Zo Z σ H ρ) {a : Addr} (h : Mo Zo Z a ∨ H a = none) : M a ∨ H0 a = none := by
  rcases h with z | z
  · exact f.mine z
  · cases q : H0 a with
    | none => exact .inr rfl
    | some o =>
      by_cases hb : b.B a
      · exact absurd z (b.dom _ _ f.v.g hb)
      · by_cases hm : M a
        · exact .inl hm
        · rw [f.ext a o q hb hm] at z; cases z
theorem FOk.rtBack (f : FOk b H0 M Zo Z σ H ρ) {H' : Hp} {Z' : Addr → Prop} {v : V} {r : Rt} (k : RtOk b H (Mo Zo Z) Zo Z' H' v r) : RtOk b H0 M Zo Z' H' v r := by
  cases r with
  | val d => exact k
  | nw d => obtain ⟨x, e, h, k⟩ := k; exact ⟨x, e, f.frBack h, k⟩
  | nwL d ds => obtain ⟨l, x, ws, e, h1, h2, h3, h4, h5, k⟩ := k; exact ⟨l, x, ws, e, h1, f.frBack h2, h3, h4, f.frBack h5, k⟩
theorem Lk.here (l : Lk b W H0 M Zo De Dn) (f : FOk b H0 M Zo Z σ H ρ) : Lk b W H (Mo Zo Z) Zo De Dn where
  nx := fun Z' σ' H' ρ' f' q => l.nx Z' σ' H' ρ' (f.back f') q
  rt := fun v H' d x g r q => l.rt v H' d (f.extBack x) g r q
  bk := fun Z' σ' H' ρ' f' q => l.bk Z' σ' H' ρ' (f.back f') q
  ct := fun Z' σ' H' ρ' f' q => l.ct Z' σ' H' ρ' (f.back f') q
  ex := fun c x Z' σ' H' ρ' er f' r q => l.ex c x Z' σ' H' ρ' er (f.back f') r q
  ro := fun v Z' σ' H' ρ' r f' k q => l.ro v Z' σ' H' ρ' r (f.back f') (f.rtBack k) q
/-- what is owned later was owned at the start, or is new -/
theorem FOk.young (f : FOk b H (Mo Zo Z) Zo Z' σ' H' ρ') (v : VOk b Zo Z σ H ρ) : ∀ a, Z' a → Z a ∨ H a = none := fun a z => by
  rcases f.v.zi a z with z | ⟨i, d, h1, h2⟩
  · exact .inl (v.zo a z)
  · exact (f.fr i d a h1 h2).imp (·.1) id
end
/-! ### for -/
@[simp] def forGo (g : VTg) (tb : VS) : List D → VEnv → VEnds → Prop
  | [], ρ, De => De.nx ρ
  | d :: ds, ρ, De => g d ρ fun ρ1 => tb ρ1 { De with nx := fun ρ2 => forGo g tb ds ρ2 De, ct := fun ρ2 => forGo g tb ds ρ2 De, bk := De.nx }
@[simp] def sFor (ti : VIt) (g : VTg) (tb : VS) : VS := fun ρ De => ti ρ (fun ds => forGo g tb ds ρ De) (De.ex ρ)
section
variable {X : Cx} {b : Bg} {W : WX} {tg iter : Expr} {body : List Stmt} {ti : VIt} {js : List Nat} {g : VTg} {tb : VS} {pos : Pos}
theorem vs_for (hp : PassesOwn (model X.prog X.w) X.A X.env X.xe) (hc : X.calm = true) (hi : VI X b W tg iter ti) (hg : VG X b tg js g) (hb : VSs X b W body tb)
    (hs : ∀ x, foldedSetIterable iter X.env x = pure x := by intro _; rfl) : VSt X b W (.For tg iter body [] pos) (sFor ti g tb) :=
  ps_mono (ps_for hp hc hi hg hb hs) fun Dn σ H ⟨H0, M, Zo, Z, ρ, De, f, q, l⟩ => ⟨Zo, Z, ρ, _, _, f.v, q, fun J H1 ds x1 g1 wk q1 => by
    have f1 := f.ex x1 g1
    have l1 := l.here f1
    have hZ : ∀ a, ¬ Z a → ¬ b.B a ∧ ¬ Mo Zo Z a := fun a n => ⟨fun z => n (f.v.zo _ (f.v.zb a z)), fun z => n z.1⟩
    refine ⟨fun i m σ' H' => m = ds.length - i ∧ i ≤ ds.length ∧ ∃ Z' ρ', FOk b H1 (Mo Zo Z) Zo Z' σ' H' ρ' ∧ forGo g tb (ds.drop i) ρ' De, ⟨ds.length, by simp, Nat.zero_le _, Z, ρ, f1.v.here, q1⟩, ?_⟩
    rintro i m σ' H' ⟨rfl, hi, Z', ρ', f', q'⟩
    have st : ∀ a o, H1 a = some o → ¬ Z a → H' a = some o := fun a o e n => f'.ext a o e (hZ a n).1 (hZ a n).2
    by_cases hlt : i < ds.length
    · rw [List.drop_eq_getElem_cons hlt] at q'
      obtain ⟨go, yl⟩ := wk.go i ds[i] H' (List.getElem?_eq_getElem hlt) st f'.v.g
      refine .inr ⟨go, fun σ2 H2 => ∃ Z2 ρ2, FOk b H1 (Mo Zo Z) Zo Z2 σ2 H2 ρ2 ∧ forGo g tb (ds.drop (i + 1)) ρ2 De, fun σ2 H2 h2 => ⟨ds.length - (i + 1), by omega, rfl, hlt, h2⟩, fun v H3 y => ?_⟩
      obtain ⟨x3, g3, r3⟩ := yl v H3 y
      refine ⟨H1, Mo Zo Z, Zo, Z', ρ', _, _, f'.ex x3 g3, r3 Z' (f'.young f1.v) f'.v.dom, q', fun Z4 σ4 ρ4 _ _ f4 q4 => ?_⟩
      exact ⟨H1, Mo Zo Z, Zo, Z4, ρ4, _, f4, q4, ⟨fun Z5 σ5 H5 ρ5 f5 q5 => ⟨Z5, ρ5, f5, q5⟩, l1.rt, fun Z5 σ5 H5 ρ5 f5 q5 => l1.nx Z5 σ5 H5 ρ5 f5 q5, fun Z5 σ5 H5 ρ5 f5 q5 => ⟨Z5, ρ5, f5, q5⟩, l1.ex, l1.ro⟩⟩
    · have e : ds.length = i := by omega
      rw [List.drop_eq_nil_of_le (by omega)] at q'
      exact .inl ⟨wk.stop i H' e st, l1.nx Z' σ' H' ρ' f' q'⟩, l.er f⟩
/-! ### while -/
def sWhile (c : VB) (tb : VS) : VS := fun ρ De => ∃ Iv : Nat → VEnv → Prop, (∃ m, Iv m ρ) ∧ ∀ m ρ, Iv m ρ →
  c ρ (fun k => if k = true then tb ρ { De with nx := fun ρ' => ∃ m', m' < m ∧ Iv m' ρ', ct := fun ρ' => ∃ m', m' < m ∧ Iv m' ρ', bk := De.nx } else De.nx ρ) (De.ex ρ)
theorem vs_while {c : Expr} {tc : VB} (hp : PassesOwn (model X.prog X.w) X.A X.env X.xe) (hc : VTe X b W c tc) (hb : VSs X b W body tb) : VSt X b W (.While c body [] pos) (sWhile tc tb) :=
  ps_mono (ps_while hp hc hb) fun Dn σ H ⟨H0, M, Zo, Z, ρ, De, f, ⟨Iv, ⟨m0, i0⟩, turn⟩, l⟩ => by
    refine ⟨fun m σ' H' => ∃ Z' ρ', FOk b H0 M Zo Z' σ' H' ρ' ∧ Iv m ρ', ⟨m0, Z, ρ, f, i0⟩, ?_⟩
    rintro m σ' H' ⟨Z', ρ', f', q'⟩
    refine ⟨Zo, Z', ρ', _, _, f'.v, turn m ρ' q', fun k H2 x g q2 => ?_, l.er f'⟩
    cases k with
    | true =>
      refine ⟨fun σ3 H3 => ∃ m', m' < m ∧ ∃ Z3 ρ3, FOk b H0 M Zo Z3 σ3 H3 ρ3 ∧ Iv m' ρ3, fun σ3 H3 ⟨m', hm, h3⟩ => ⟨m', hm, h3⟩, ?_⟩
      exact ⟨H0, M, Zo, Z', ρ', _, f'.ex x g, q2, ⟨fun Z5 σ5 H5 ρ5 f5 ⟨m', hm, q5⟩ => ⟨m', hm, Z5, ρ5, f5, q5⟩, l.rt, fun Z5 σ5 H5 ρ5 f5 q5 => l.nx Z5 σ5 H5 ρ5 f5 q5, fun Z5 σ5 H5 ρ5 f5 ⟨m', hm, q5⟩ => ⟨m', hm, Z5, ρ5, f5, q5⟩, l.ex, l.ro⟩⟩
    | false => exact l.nx Z' σ' H2 ρ' (f'.ex x g) q2
end
/-! ### list comprehensions -/
abbrev noW : WX := fun _ _ _ _ => False
abbrev noE : Er → Prop := fun _ => False
@[simp] def wipeE (ρ : VEnv) : List Nat → VEnv
  | [] => ρ
  | v :: vs => (wipeE ρ vs).set v .un
@[simp] def wYes : VB := fun _ Q _ => Q true
@[simp] def lcGo (g : VTg) (tt : VB) (te : VT) (Q : D → Prop) : List D → List PyData → VEnv → Prop
  | [], acc, _ => Q (.py (.list acc))
  | d :: ds, acc, ρ => g d ρ fun ρ1 => tt ρ1 (fun k => if k = true then te ρ1 (fun y => ∃ p, y = .py p ∧ acc.length < sizeLine ∧ lcGo g tt te Q ds (acc ++ [p]) ρ) noE else lcGo g tt te Q ds acc ρ) noE
/-- no slot of these is owned -/
@[simp] def noOwn (ρ : VEnv) (vs : List Nat) : Prop := ∀ i ∈ vs, ∀ d, ρ[i]? ≠ some (.own d)
@[simp] def vLc (vs : List Nat) (ti : VIt) (g : VTg) (tt : VB) (te : VT) : VT := fun ρ Q E => noOwn ρ vs ∧ ti ρ (fun ds => lcGo g tt te Q ds [] (wipeE ρ vs)) E
theorem wipeE_len (ρ : VEnv) : ∀ vs : List Nat, (wipeE ρ vs).length = ρ.length
  | [] => rfl
  | v :: vs => by unfold wipeE; rw [List.length_set, wipeE_len ρ vs]
theorem wipeE_in {ρ : VEnv} {i : Nat} {s : Slot} : ∀ {vs : List Nat}, (wipeE ρ vs)[i]? = some s → (s = .un ∧ i ∈ vs) ∨ (ρ[i]? = some s ∧ i ∉ vs)
  | [], h => .inr ⟨h, by simp⟩
  | v :: vs, h => by
    unfold wipeE at h
    by_cases hi : v = i
    · subst hi
      by_cases hv : v < (wipeE ρ vs).length
      · rw [List.getElem?_set_self hv] at h; cases h; exact .inl ⟨rfl, List.mem_cons_self⟩
      · rw [List.getElem?_eq_none (by rw [List.length_set]; omega)] at h; cases h
    · rw [List.getElem?_set_ne hi] at h
      rcases wipeE_in h with ⟨h1, h2⟩ | ⟨h1, h2⟩
      · exact .inl ⟨h1, List.mem_cons_of_mem _ h2⟩
      · exact .inr ⟨h1, fun m => by
          rcases List.mem_cons.mp m with e | m
          · exact hi e.symm
          · exact h2 m⟩
theorem wipeE_out {ρ : VEnv} {i : Nat} {s : Slot} (h : ρ[i]? = some s) : ∀ {vs : List Nat}, i ∉ vs → (wipeE ρ vs)[i]? = some s
  | [], _ => h
  | v :: vs, hn => by
    unfold wipeE
    rw [List.getElem?_set_ne (fun e => hn (by rw [e]; exact List.mem_cons_self))]
    exact wipeE_out h fun m => hn (List.mem_cons_of_mem _ m)
theorem wipe_same {σ σ' : L2.St} {ρ ρ' : VEnv} {js : List Nat} (s : Same js σ σ' ρ ρ') : ∀ {vs : List Nat}, (∀ j ∈ js, j ∈ vs) → wipe σ' vs = wipe σ vs := fun {vs} h => by
  have wo : ∀ (τ : L2.St) (j : Nat) (vs : List Nat), j ∉ vs → (wipe τ vs)[j]? = τ[j]? := fun τ j vs => by
    induction vs with
    | nil => intro _; rfl
    | cons v vs ih =>
      intro hn
      show ((wipe τ vs).set v none)[j]? = _
      rw [List.getElem?_set_ne (fun e => hn (by rw [e]; exact List.mem_cons_self))]
      exact ih fun m => hn (List.mem_cons_of_mem _ m)
  have wi : ∀ (τ : L2.St) (j : Nat) (vs : List Nat), j ∈ vs → (wipe τ vs)[j]? = if j < τ.length then some none else none := fun τ j vs => by
    induction vs with
    | nil => intro h; cases h
    | cons v vs ih =>
      intro hm
      show ((wipe τ vs).set v none)[j]? = _
      by_cases e : v = j
      · subst e
        by_cases hl : v < τ.length
        · rw [List.getElem?_set_self (by rw [wipe_length]; exact hl), if_pos hl]
        · rw [List.getElem?_eq_none (by rw [List.length_set, wipe_length]; omega), if_neg hl]
      · rw [List.getElem?_set_ne e]
        exact ih ((List.mem_cons.mp hm).resolve_left fun q => e q.symm)
  apply List.ext_getElem?
  intro j
  by_cases hj : j ∈ vs
  · rw [wi σ' j vs hj, wi σ j vs hj, s.len]
  · rw [wo σ' j vs hj, wo σ j vs hj]
    exact s.out j fun m => hj (h j m)
theorem VOk.wiped {b : Bg} {Zo Z : Addr → Prop} {σ : L2.St} {H : Hp} {ρ : VEnv} (v : VOk b Zo Z σ H ρ) {vs : List Nat} (hn : noOwn ρ vs) : VOk b Zo Z (wipe σ vs) H (wipeE ρ vs) where
  g := v.g
  zb := v.zb
  zo := v.zo
  dom := v.dom
  zi := fun a z => by
    rcases v.zi a z with z | ⟨i, d, h1, h2⟩
    · exact .inl z
    · have hi : i ∉ vs := fun m => hn i m d h1
      exact .inr ⟨i, d, wipeE_out h1 hi, by rw [wipe_out hi]; exact h2⟩
  own := fun i d h => by
    rcases wipeE_in h with ⟨h1, _⟩ | ⟨h1, hi⟩
    · cases h1
    · obtain ⟨a, h2, h3⟩ := v.own i d h1
      exact ⟨a, by rw [wipe_out hi]; exact h2, h3⟩
  inj := fun i j d e a h1 h2 h3 h4 => by
    rcases wipeE_in h1 with ⟨q, _⟩ | ⟨h1, hi⟩
    · cases q
    · rcases wipeE_in h2 with ⟨q, _⟩ | ⟨h2, hj⟩
      · cases q
      · rw [wipe_out hi] at h3
        rw [wipe_out hj] at h4
        exact v.inj i j d e a h1 h2 h3 h4
  shr := fun i d h => by
    rcases wipeE_in h with ⟨h1, _⟩ | ⟨h1, hi⟩
    · cases h1
    · obtain ⟨u, h2, h3⟩ := v.shr i d h1
      exact ⟨u, by rw [wipe_out hi]; exact h2, h3⟩
  len := by rw [wipeE_len, wipe_length]; exact v.len
section
variable {b : Bg} {Z : Addr → Prop} {H : Hp} {a : Addr}
/-- one more address to be avoided: nothing that is known reaches a new one -/
theorem Rp.apart (ha : H a = none) {o : HO} {v : V} {d : D} (r : Rp b Z H v d) : Rp b (fun c => Z c ∨ c = a) (upd H a o) v d :=
  r.mono (fun c z => z.imp id fun e => by rw [e]; exact ha) fun c u e _ => by rw [upd_ne (ne_of_none e ha)]; exact e
theorem Ow.apart (ha : H a = none) {o : HO} {c : Addr} {d : D} (r : Ow b Z H c d) : Ow b (fun c => Z c ∨ c = a) (upd H a o) c d :=
  r.mono (fun c z => z.imp id fun e => by rw [e]; exact ha) (fun c u e _ => by rw [upd_ne (ne_of_none e ha)]; exact e) fun u e => by rw [upd_ne (ne_of_none e ha)]; exact e
theorem VOk.apart {Zo : Addr → Prop} {σ : L2.St} {ρ : VEnv} (v : VOk b Zo Z σ H ρ) (ha : H a = none) {o : HO} : VOk b (fun c => Zo c ∨ c = a) (fun c => Z c ∨ c = a) σ (upd H a o) ρ where
  g := Bg.new v.g ha
  zb := fun c z => .inl (v.zb c z)
  zo := fun c z => z.imp (v.zo c) id
  dom := fun c z => by
    by_cases e : c = a
    · rw [e, upd_same]; simp
    · rw [upd_ne e]; exact v.dom c (z.resolve_right e)
  zi := fun c z => z.elim (fun z => (v.zi c z).imp .inl id) fun e => .inl (.inr e)
  own := fun i d e => by
    obtain ⟨c, h1, h2, h3, h4⟩ := v.own i d e
    exact ⟨c, h1, .inl h2, fun z => z.elim h3 fun q => v.dom c h2 (by rw [q]; exact ha), h4.apart ha⟩
  inj := v.inj
  shr := fun i d e => by
    obtain ⟨u, h1, h2⟩ := v.shr i d e
    exact ⟨u, h1, h2.apart ha⟩
  len := v.len
/-- an object that is an outer one's is written: nothing here reaches it -/
theorem VOk.outer {Zo : Addr → Prop} {σ : L2.St} {ρ : VEnv} (v : VOk b Zo Z σ H ρ) (ha : Zo a) (nb : ¬ b.B a) (hx : ∀ o, still o → H a ≠ some o) {o : HO} : VOk b Zo Z σ (upd H a o) ρ := by
  have keep : ∀ c u, H c = some u → ¬ Z c → upd H a o c = some u := fun c u e n => by rw [upd_ne (fun q => n (by rw [q]; exact v.zo a ha))]; exact e
  refine ⟨b.loc H _ (fun c hc => upd_ne fun q => nb (by rw [← q]; exact hc)) (fun c o ho e => by rw [upd_ne (fun q => hx o ho (by rw [← q]; exact e))]; exact e) v.g, v.zb, v.zo, fun c z => ?_, v.zi, fun i d e => ?_, v.inj, fun i d e => ?_, v.len⟩
  · by_cases q : c = a
    · rw [q, upd_same]; simp
    · rw [upd_ne q]; exact v.dom c z
  · obtain ⟨c, h1, h2, h3, h4⟩ := v.own i d e
    exact ⟨c, h1, h2, h3, h4.mono (fun _ z => .inl z) keep fun u e => by rw [upd_ne (fun q => h3 (by rw [q]; exact ha))]; exact e⟩
  · obtain ⟨u, h1, h2⟩ := v.shr i d e
    exact ⟨u, h1, h2.mono (fun _ z => .inl z) keep⟩
end
section
variable {b : Bg} {W : WX} {ti : VIt} {js : List Nat} {g : VTg} {tt : VB} {te : VT} {vs : List Nat}
theorem lc_sound (hjs : ∀ j ∈ js, j ∈ vs) : ∀ σ H Q, LE b W (RN b) (vLc vs ti g tt te) σ H Q → tLc (LI b W (fun _ => b.B) ti) (LG b js g) (LB b noW tt) (LE b noW (RE b) te) vs σ H Q :=
  fun σ H Q ⟨Zo, Z, ρ, Qd, Ed, v, ⟨hno, q⟩, l, m⟩ => ⟨Zo, Z, ρ, _, _, v, q, fun J H1 ds x1 g1 wk q1 => by
    intro A hA
    have v1 := v.ex x1 g1
    have nzA : ¬ Z A := v1.fresh hA
    have nbA : ¬ b.B A := v1.nb nzA
    have hA0 : H A = none := none_back g1 x1 A hA
    have v2 := (v1.apart hA (o := .lst [])).wiped hno
    -- the invariant
    let Iv : Nat → Hp → Prop := fun i H' => ∃ xs acc, H' A = some (.lst xs) ∧ Rqs (fun c => Z c ∨ c = A) H' xs acc ∧ VOk b (fun c => Zo c ∨ c = A) (fun c => Z c ∨ c = A) (wipe σ vs) H' (wipeE ρ vs) ∧ (∀ a o, H1 a = some o → ¬ b.B a → H' a = some o) ∧ lcGo g tt te Qd (ds.drop i) acc (wipeE ρ vs)
    refine ⟨fun i m H' => m = ds.length - i ∧ i ≤ ds.length ∧ Iv i H', ⟨ds.length, by simp, Nat.zero_le _, [], [], upd_same, .nil, v2, fun a o e _ => by rw [upd_ne (ne_of_none e hA)]; exact e, q1⟩, ?_⟩
    rintro i m H' ⟨rfl, hi, xs, acc, hx, rx, v', st, q'⟩
    by_cases hlt : i < ds.length
    · rw [List.drop_eq_getElem_cons hlt] at q'
      obtain ⟨go, yl⟩ := wk.go i ds[i] H' (List.getElem?_eq_getElem hlt) st v'.g
      refine .inr ⟨go, Iv (i + 1), fun H2 h2 => ⟨ds.length - (i + 1), by omega, rfl, hlt, h2⟩, fun w H3 y => ?_⟩
      obtain ⟨x3, g3, r3⟩ := yl w H3 y
      have v3 := v'.ex x3 g3
      refine ⟨H3, fun _ => True, _, _, _, ds[i], _, ⟨v3, fun _ _ e _ _ => e, fun _ _ _ _ _ => .inl trivial⟩, r3 _ (fun a z => z.imp id fun e => by rw [e]; exact hA) v'.dom, q', fun Z4 σ4 ρ4 sub sm f4 q4 => ?_⟩
      have ww : wipe (wipe σ vs) vs = wipe σ vs := wipe_same (js := vs) (σ := σ) (ρ := ρ) (ρ' := ρ) ⟨by rw [wipe_length], fun j hj => wipe_out hj, fun _ _ => rfl⟩ fun j h => h
      refine ⟨(wipe_same sm hjs).trans ww, ?_⟩
      have st3 : ∀ a o, H1 a = some o → ¬ b.B a → H3 a = some o := fun a o e n => x3 a o (st a o e n) n
      have hx3 : H3 A = some (.lst xs) := x3 A _ hx nbA
      refine ⟨_, _, _, _, _, f4.v, q4, fun k H5 x5 g5 q5 => ?_, fun c z H5 er _ _ _ h => h.elim⟩
      have st5 : ∀ a o, H1 a = some o → ¬ b.B a → H5 a = some o := fun a o e n => x5 a o (st3 a o e n) n
      have hx5 : H5 A = some (.lst xs) := x5 A _ hx3 nbA
      have v5 := v3.ex x5 g5
      have rx5 : Rqs (fun c => Z c ∨ c = A) H5 xs acc := v3.rqs x5 (v'.rqs x3 rx)
      cases k with
      | false => exact ⟨xs, acc, hx5, rx5, v5, st5, q5⟩
      | true =>
        refine ⟨_, _, _, _, _, f4.v.ex x5 g5, q5, fun u H6 d6 x6 g6 r6 ⟨p, ep, hz, q6⟩ => ?_, fun c z H6 er _ _ _ h => h.elim⟩
        subst ep
        have hx6 : H6 A = some (.lst xs) := x6 A _ hx5 nbA
        have rx6 := v5.rqs x6 rx5
        have v6 := v5.ex x6 g6
        have zo4 : ∀ c, (Zo c ∨ c = A) → Z4 c := f4.v.zo
        have r7 : Rq (fun c => Z c ∨ c = A) H6 u p := by
          refine Rq.mono (fun c z => ?_) (fun _ _ e _ => e) r6
          -- what the block's names own is what the def owns
          rcases v'.zi c z with z' | ⟨j, dj, h1, h2⟩
          · exact .inl (zo4 c z')
          · rcases wipeE_in h1 with ⟨h1, _⟩ | ⟨h1, hj⟩
            · cases h1
            · have hj' : j ∉ js := fun m => hj (hjs j m)
              have e4 := sm.env j hj'
              rw [wipeE_out h1 hj] at e4
              obtain ⟨c', h3, h4, _⟩ := f4.v.own j dj e4
              rw [sm.out j hj', h2] at h3
              cases h3
              exact .inl h4
        refine ⟨xs, hx6, by rw [rx6.length]; exact hz, xs ++ [u], acc ++ [p], upd_same, ?_, v6.outer (.inr rfl) nbA (fun o ho z => by rw [hx6] at z; cases z; exact ho), fun a o e n => ?_, q6⟩
        · have mv : ∀ c o, H6 c = some o → ¬ (Z c ∨ c = A) → upd H6 A (.lst (xs ++ [u])) c = some o := fun c o e n => by rw [upd_ne (fun q => n (.inr q))]; exact e
          exact (rx6.mono (fun _ z => .inl z) mv).append (.cons (Rq.mono (fun _ z => .inl z) mv r7) .nil)
        · rw [upd_ne (ne_of_none e hA)]
          exact x6 a o (st5 a o e n) n
    · have e : ds.length = i := by omega
      rw [List.drop_eq_nil_of_le (by omega)] at q'
      refine .inl ⟨wk.stop i H' e st, ?_⟩
      have xx : Ex b H H' := fun a o e n => st a o (x1 a o e n) n
      exact l _ H' (.py (.list acc)) xx v'.g ⟨A, rfl, hA0, xs, hx, rx⟩ q', m⟩
end
section
variable {X : Cx} {b : Bg} {W : WX} {tg iter elt c : Expr} {ifs : List Expr} {scope : Scope} {own : List (Str × Nat)} {pos spos py : Pos} {ti : VIt} {js : List Nat} {g : VTg} {tt : VB} {te : VT} {i : Nat} {y : Str}
/-- a block's tests -/
def VTs (X : Cx) (b : Bg) (ifs : List Expr) (t : VB) : Prop := PTs X ifs (LB b noW t)
theorem pts_mono {t t' : TT} (h : PTs X ifs t) (m : ∀ σ H Q, t' σ H Q → t σ H Q) : PTs X ifs t' := ⟨fun pins s σ H Q I q => h.run pins s σ H Q I (m σ H Q q)⟩
theorem vts_nil : VTs X b [] wYes := pts_mono pts_nil fun σ H Q ⟨Zo, Z, ρ, Qd, Ed, v, q, l, _⟩ => l true H Ex.refl v.g q
theorem vts_one (h : VTe X b noW c tt) : VTs X b [c] tt := pts_one h
theorem vn_lc (hc : X.calm = true) (hN : X.N.Nodup) (hi : VIb X b W tg iter ti) (ok : BlkOk X.N X.env.scope scope own) (hjs : ∀ j ∈ js, j ∈ own.map (·.2))
    (hg : ∀ (s : Shared) (H : Hp) (C : Addr) (cl : List (Str × Addr)) (fp : List Addr), VG (X.blk s H scope (compEnvC scope cl C X.env) fp) b tg js g) (ht : ∀ (s : Shared) (H : Hp) (C : Addr) (cl : List (Str × Addr)) (fp : List Addr), VTs (X.blk s H scope (compEnvC scope cl C X.env) fp) b ifs tt)
    (he : ∀ (s : Shared) (H : Hp) (C : Addr) (cl : List (Str × Addr)) (fp : List Addr), VE (X.blk s H scope (compEnvC scope cl C X.env) fp) b noW elt te) (hs : ∀ x, foldedSetIterable iter X.env x = pure x := by intro _; rfl) :
    VN X b W (.ListComp elt [⟨tg, iter, ifs, 0⟩] scope pos) (vLc (own.map (·.2)) ti g tt te) :=
  pe_mono (pe_lc hc hN hi ok hg ht he hs) (lc_sound hjs)
end
end VL
set_option Elab.async false
set_option linter.all false
set_option maxRecDepth 100000
set_option maxHeartbeats 4000000
namespace VL
open PySem PySem.Spec PyProof.Rows L2
/-! ### what a def promises, by values -/
abbrev SV := List D → (D → Prop) → (Er → Prop) → Prop
def spV (b : Bg) (S : SV) : Sp := fun vs H Q E => ∃ Z ds Qd Ed, Gd b Z H ∧ Rps b Z H vs ds ∧ S ds Qd Ed ∧ (∀ v H' d, Ex b H H' → b.G H' → Rp b Z H' v d → Qd d → Q v H') ∧ ∀ c x H' er, Ex b H H' → b.G H' → ErRp b Z H' c x er → Ed er → E c x H'
/-- the ends of a def's body -/
@[simp] def fin (Q : D → Prop) (E : Er → Prop) : VEnds := { nx := fun _ => Q (.py .none), rt := Q, bk := fun _ => False, ct := fun _ => False, ex := fun _ => E }
/-- the names' values at the entry -/
@[simp] def envOf (n : Nat) (ds : List D) : VEnv := ds.map Slot.shr ++ List.replicate (n - ds.length) .un
theorem Rps.at {b : Bg} {Z : Addr → Prop} {H : Hp} : ∀ {vs : List V} {ds : List D} {i : Nat} {d : D}, Rps b Z H vs ds → ds[i]? = some d → ∃ v, vs[i]? = some v ∧ Rp b Z H v d
  | _, _, _, _, .nil, e => by simp at e
  | _, _, 0, _, .cons r _, e => by simp at e; subst e; exact ⟨_, rfl, r⟩
  | _, _, i + 1, _, .cons _ t, e => by
    obtain ⟨y, h1, h2⟩ := Rps.at (i := i) t (by simpa using e)
    exact ⟨y, by simpa using h1, h2⟩
theorem envOf_at {n i : Nat} {ds : List D} {s : Slot} (h : (envOf n ds)[i]? = some s) : s = .un ∨ ∃ d, s = .shr d ∧ ds[i]? = some d := by
  unfold envOf at h
  by_cases hi : i < ds.length
  · rw [List.getElem?_append_left (by simpa using hi), List.getElem?_map] at h
    cases e : ds[i]? with
    | none => rw [e] at h; cases h
    | some d => rw [e] at h; cases h; exact .inr ⟨d, rfl, rfl⟩
  · rw [List.getElem?_append_right (by simpa using hi), List.getElem?_replicate] at h
    split at h
    · cases h; exact .inl rfl
    · cases h
theorem VOk.entry {b : Bg} {Z : Addr → Prop} {H : Hp} {N : List Str} {vs : List V} {ds : List D} (g : Gd b Z H) (r : Rps b Z H vs ds) (hl : vs.length ≤ N.length) : VOk b Z Z (L2.start N vs) H (envOf N.length ds) where
  g := g.g
  zb := g.zb
  zo := fun _ z => z
  dom := g.dom
  zi := fun _ z => .inl z
  own := fun i d e => by
    rcases envOf_at e with h | ⟨d', h, _⟩ <;> cases h
  inj := fun i j d e a h1 _ _ _ => by
    rcases envOf_at h1 with h | ⟨d', h, _⟩ <;> cases h
  shr := fun i d e => by
    rcases envOf_at e with h | ⟨d', h, hd⟩
    · cases h
    · cases h
      obtain ⟨v, hv, rv⟩ := r.at hd
      refine ⟨v, ?_, rv⟩
      unfold L2.start
      have hi : i < vs.length := (List.getElem?_eq_some_iff.mp hv).1
      rw [List.getElem?_append_left (by simpa using hi), List.getElem?_map, hv]
      rfl
  len := by
    unfold envOf L2.start
    rw [List.length_append, List.length_map, List.length_replicate, List.length_append, List.length_map, List.length_replicate, ← r.length]
abbrev WF (E : XK) : WX := fun c d _ H => E c d H
section
variable {P : Program} {w : World} {K : PySem.W.Frag} {mg : Str → Option Value} {base : Heap} {b : Bg} {k : Nat} {x qual : Str} {st : Stmt} {f : Addr} {fd : FuncData} {N ps : List Str} {S : SV}
theorem fin_link {t : VS} {H : Hp} {vs : List V} {Q : VK} {E : XK} (hlaw : ∀ ds Q E, S ds Q E → t (envOf N.length ds) (fin Q E)) (hl : vs.length ≤ N.length) (h : spV b S vs H Q E) :
    LS b (WF E) t { nx := fun _ H' => Q .non H', rt := Q } (L2.start N vs) H := by
  obtain ⟨Z, ds, Qd, Ed, g, r, s, l, m⟩ := h
  have x : ∀ {H'}, (∀ a o, H a = some o → ¬ b.B a → ¬ False → H' a = some o) → Ex b H H' := fun h a o e n => h a o e n not_false
  refine ⟨H, fun _ => False, Z, Z, envOf N.length ds, fin Qd Ed, ⟨VOk.entry g r hl, fun _ _ e _ _ => e, fun i d a e _ => ?_⟩, hlaw ds Qd Ed s, ⟨fun Z' σ' H' ρ' f' q => l .non H' (.py .none) (x f'.ext) f'.v.g Rq.non q, fun v H' d x1 g1 r1 q => l v H' d (x x1) g1 r1 q, fun _ _ _ _ _ q => q.elim, fun _ _ _ _ _ q => q.elim, fun c y Z' σ' H' ρ' er f' r' q => m c y H' er (x f'.ext) f'.v.g ?_ q, fun _ _ _ _ _ _ _ _ q => q.elim⟩⟩
  · rcases envOf_at e with h | ⟨d', h, _⟩ <;> cases h
  · obtain ⟨h1, h2⟩ := r'
    refine ⟨h1, h2.imp id ?_⟩
    rintro ⟨a, xs, e1, e2, e3, e4⟩
    exact ⟨a, xs, e1, e2, fun z => e3 (f'.v.zo a z), e4.mono (fun c z => .inl (f'.v.zo c z)) fun _ _ e _ => e⟩
/-- a def of the text, by its body -/
theorem fnV (F : Fun K x qual st f fd) (Sc : FnScope N ps (defScope st)) {t : VS} (hlen : ∀ ds Q E, S ds Q E → ds.length = ps.length) (hps : ps.length ≤ N.length)
    (hbody : ∀ (cdv : Value) (A : Around) (outer : List Env) (s : Shared) (H : Hp) (E : XK), Room k (A.deeper (envOfC qual (defScope st) s.heap.objs.size f cdv)) →
      Takes (cxOf (L2.CX P w) P w K mg base N qual (defScope st) f cdv A outer s H E) (WF E) → VSs (cxOf (L2.CX P w) P w K mg base N qual (defScope st) f cdv A outer s H E) b (WF E) (defBody st) t)
    (hlaw : ∀ ds Q E, S ds Q E → t (envOf N.length ds) (fin Q E)) : FnOk P w K mg base (L2.CX P w) (k + 1) f fd ps (spV b S) := by
  have len : ∀ vs H Q E, spV b S vs H Q E → vs.length = ps.length := fun vs H Q E ⟨Z, ds, Qd, Ed, g, r, s, _⟩ => r.length.trans (hlen ds Qd Ed s)
  refine F.okX Sc len fun cdv A outer s H vs Q E hr h => ⟨_, hbody cdv A outer s H E hr (takes_of rfl rfl rfl rfl), fin_link hlaw (Nat.le_trans (Nat.le_of_eq (len _ _ _ _ h)) hps) h⟩
end
/-! ### calls -/
@[simp] def vCall (S : SV) (u : VA) : VT := fun ρ Q E => u ρ (fun ds => S ds Q E) E
section
variable {X : Cx} {b : Bg} {W : WX} {k : Nat} {f : Addr} {fd : FuncData} {ps : List Str} {S : SV} {x : Str} {e : Expr} {es : List Expr} {u : VA} {p pos : Pos}
theorem call_core {sp : Sp} {t : TA} (hu : t = LA b W u) (hs : sp = spV b S) : ∀ σ H Q, LE b W (RE b) (vCall S u) σ H Q → tCallS sp (WE W) t σ H Q := by
  subst hu hs
  exact fun σ H Q ⟨Zo, Z, ρ, Qd, Ed, v, q, l, m⟩ => ⟨Zo, Z, ρ, _, Ed, v, q, fun vs H1 ds x1 g1 r1 q1 => by
    have v1 := v.ex x1 g1
    exact ⟨Z, ds, Qd, Ed, v1.gd, r1, q1, fun y H2 d x2 g2 r2 q2 => l y H2 d (x1.trans x2) g2 r2 q2, fun c z H2 er x2 g2 r2 q2 => m c z H2 er (x1.trans x2) g2 r2 q2⟩, m⟩
theorem ve_call (F : FnOk X.prog X.w X.K X.mg X.base (L2.CX X.prog X.w) k f fd ps (spV b S)) (hr : Room k X.A) (tk : Takes X W) (hg : Gl X x) (hm : X.mg x = some (.ref f)) (hk : PySem.W.keepIn X.K (.ref f) = true) (hb : Binds X.K fd ps [])
    (ha : VAs X b W (e :: es) u) (hdb : (x == ("__debug__" : Str)) = false := by decide) (he : starEach (e :: es) X.env = (false, eval e X.env) :: starEach es X.env := by rfl) (hpl : (backTo pos (starEach es X.env)).any (·.1) = false := by rfl) :
    VE X b W (.Call (.Name x p) (e :: es) [] pos) (vCall S u) := pe_mono (pe_callS F hr hg hm hk hb (passAt tk) ha hdb he hpl) (call_core rfl rfl)
/-- a constant of the module -/
theorem ve_glob {v : V} {d : PyData} {uu : Value} (hg : Gl X x) (hm : X.mg x = some uu) (r : RelV v uu) (rd : ∀ (Z : Addr → Prop) (H : Hp), Rq Z H v d) (hd : (x == ("__debug__" : Str)) = false := by decide) : VE X b W (.Name x pos) (vC (.py d)) :=
  ve_const (pe_glob hg hm r hd) rd
end
end VL
set_option Elab.async false
set_option linter.all false
set_option maxRecDepth 100000
set_option maxHeartbeats 4000000
namespace VL
open PySem PySem.Spec PyProof.Rows L2
/-! ### repr of plain data (dicts among it: none of the tracked dicts is the modules' own) -/
section
variable {X : Cx} {b : Bg} {W : WX} {e : Expr} {u : VA} {p pos : Pos}
/-- data that repr can show here -/
structure ReprOk (d : PyData) : Prop where
  sh : d.showable = true
  len : d.shown.length ≤ sizeLine
  dep : d.depth ≤ 40
@[simp] def gRepr : List D → (D → Prop) → Prop
  | [.py d], Q => ReprOk d ∧ Q (.py (.str d.shown))
  | _, _ => False
end
end VL
set_option Elab.async false
set_option linter.all false
set_option maxRecDepth 100000
set_option maxHeartbeats 4000000
namespace VL
open PySem PySem.Spec PyProof.Rows L2
/-! ### the law itself: called where nothing is being shown -/
structure FnG (P : Program) (w : World) (K : PySem.W.Frag) (mg : Str → Option Value) (base : Heap) (k : Nat) (f : Addr) (fd : FuncData) (ps : List Str) (sp : Sp) : Prop where
  run : ∀ (A : Around) (outer : List Env) (s : Shared) (H : Hp) (args : Args) (us : List Value) (vs : List V) (Q : VK) (E : XK), Room k A → A.guards = some [] → Env0 P w K mg base A outer s H → BindsTo s fd args (ps.zip us) → Vals vs us → sp vs H Q E →
    codeAny (model P w) A (.call (.ref f) args) (CR (L2.CX P w) outer P w H s Q E) s
section
variable {P : Program} {w : World} {K : PySem.W.Frag} {mg : Str → Option Value} {base : Heap} {k : Nat} {x qual : Str} {st : Stmt} {f : Addr} {fd : FuncData} {N ps : List Str} {sp : Sp}
theorem fnG (F : Fun K x qual st f fd) (S : FnScope N ps (defScope st)) (len : ∀ vs H Q E, sp vs H Q E → vs.length = ps.length)
    (hbody : ∀ (cdv : Value) (A : Around) (outer : List Env) (s : Shared) (H : Hp) (vs : List V) (Q : VK) (E : XK), Room k (A.deeper (envOfC qual (defScope st) s.heap.objs.size f cdv)) → (A.deeper (envOfC qual (defScope st) s.heap.objs.size f cdv)).guards = some [] → sp vs H Q E →
      ∃ t, PSs (cxOf (L2.CX P w) P w K mg base N qual (defScope st) f cdv A outer s H E) (defBody st) t ∧ t { nx := fun _ H' => Q .non H', rt := Q } (L2.start N vs) H) : FnG P w K mg base (k + 1) f fd ps sp := by
  obtain ⟨oc, od, kV, doc, pm, an, cdv, ct, osl, rfl, lk, hcd⟩ := F.ex
  refine ⟨fun A outer s H args us vs Q E hr hgd e0 hb rv hsp => ?_⟩
  have nl : s.heap.NoLimit := e0.mod.nolimit.keeps fun b o e => (e0.bs b o e).1
  have kin : K.In s.heap := e0.mod.kin.keeps fun b o e => (e0.bs b o e).1
  have kinds : ∀ y ∈ ps.zip us, (defScope st).names.lookup y.1 = some .local ∨ ((defScope st).names.lookup y.1 = some .cell ∧ ((cellsFrom (s.heap.objs.size + 1) (defScope st).names []).lookup y.1).isSome = true) := fun ⟨n, v⟩ hy =>
    (S.par n (List.of_mem_zip hy).1).imp id fun q => ⟨q, PySem.W.cellsFrom_some _ _ _ (.inl q)⟩
  refine codeAny_call_function hr.depth (kin _ _ lk) rfl S.co S.gen rfl (PySem.W.codeRec_of kin hcd) (hb _ _ _ _ (wpAny_newFunctionEnv_cells S.kind kinds fun env he s1 ic => ?_))
  subst he
  refine ⟨nl.keeps ic.toInCall.keep, codeAny_func ?_⟩
  obtain ⟨t, ht, hq⟩ := hbody cdv A outer s H vs Q E (hr.deeper _) hgd hsp
  refine wpAny_mono (ht.run [] s1 (L2.start N vs) H _ (inv_start S hr.hd e0 (len _ _ _ _ hsp) rv ic) hq) (fun fl s' hs => ?_) fun e s' hs => hs
  cases fl with
  | ret u =>
    obtain ⟨v, σ', H', J, rv', q⟩ := hs
    exact ⟨v, H', J.os, J.bare, J.base, J.hok, rv', q⟩
  | next =>
    obtain ⟨σ', H', J, q⟩ := hs
    exact ⟨.non, H', J.os, J.bare, J.base, J.hok, rfl, q⟩
  | brk => exact hs.elim fun _ h => h.elim fun _ h => h.2.elim
  | cont => exact hs.elim fun _ h => h.elim fun _ h => h.2.elim
end
/-- at the heap behind the top -/
theorem lawG {P : Program} {w : World} {K : PySem.W.Frag} {mg mb : Str → Option Value} {k : Nat} {fa a : Addr} {fd : FuncData} {x : Str} {sp : Sp} {s0 : Shared} {vs : List Value} {ns : List Int}
    (KX : K.In s0.heap) (hns : s0.heap.Ns mainGlobals mg) (hb : s0.heap.Ns builtinsNs mb) (hbb : ∀ x : Str, x ≠ "__name__" → mb x = bootBuiltins x) (hlim : s0.heap.NoLimit) (hgens : s0.gens = #[])
    (ha : s0.heap.get? a = some { cls := .type "list", data := .seq vs.toArray }) (hi : IntsAre vs ns) (hl : ns.length ≤ sizeLine) (hr : Room k callerA)
    (F : ∀ base : Heap, K.In base → base.Ns mainGlobals mg → FnG P w K mg base k fa fd [x] sp) (hbind : ∀ (s : Shared) (u : Value), BindsTo s fd ⟨[u], []⟩ [(x, u)])
    (hsp : ∀ H : Hp, Only H → SqL K H a (ns.map V.int) → sp [.ref a] H (fun v _ => v = .bl true) fun _ _ _ => False) :
    codeAny (model P w) callerA (.call (.ref fa) ⟨[.ref a], []⟩) (fun r s' => r = .ok (.ret (.bool true)) ∧ OldK s0.heap s'.heap ∧ s'.os = s0.os ∧ AllBare s'.gens) s0 := by
  have rv := vals_ints hi
  -- whatever is tracked is the script
  have go : ∀ H : Hp, Only H → SqL K H a (ns.map V.int) → HOk P w H s0.heap → (∀ b, H b ≠ none → b = a) → (H a ≠ none → K.lookup a = none) →
      codeAny (model P w) callerA (.call (.ref fa) ⟨[.ref a], []⟩) (fun r s' => r = .ok (.ret (.bool true)) ∧ OldK s0.heap s'.heap ∧ s'.os = s0.os ∧ AllBare s'.gens) s0 := by
    intro H hO hS hok hA hK
    have only_a : ∀ {b : Addr} {u : HO}, H b = some u → b = a := fun {b u} q => hA b (by rw [q]; simp)
    have low : ∀ {b : Addr} {o : Obj}, s0.heap.get? b = some o → H b = none → (hidT s0.heap H).get? b = some o := fun e n => hidT_get e n
    have nsk : ∀ {b : Addr} {m : Str → Option Value}, s0.heap.Ns b m → (hidT s0.heap H).Ns b m := fun {b m} ⟨o, es, ep, e, d, r⟩ => ⟨o, es, ep, low e (by
      cases q : H b with
      | none => rfl
      | some u =>
        rw [only_a q, ha] at e
        cases e
        have d' : Data.seq vs.toArray _ = Data.dict es ep := d
        cases d'), d, r⟩
    have kb : K.In (hidT s0.heap H) := fun b o e => low (KX b o e) (by
      cases q : H b with
      | none => rfl
      | some u =>
        have eb := only_a q
        subst eb
        rw [hK (by rw [q]; simp)] at e
        cases e)
    obtain ⟨mc, c1, c2⟩ := hlim
    have env : Env0 P w K mg (hidT s0.heap H) callerA [] s0 H := ⟨rfl, ⟨kb, nsk hns, ⟨mb, nsk hb, hbb⟩, ⟨mc, nsk c1, c2⟩⟩, fun b o e => of_hidT e, Nat.le_of_eq (hidT_size _ _), trivial, (fun b m => nomatch (show b ∈ ([] : List Addr) from m)), hok, .of_eq hgens⟩
    refine codeAny_mono ((F _ kb (nsk hns)).run callerA [] s0 H ⟨[.ref a], []⟩ [.ref a] [.ref a] _ _ hr rfl env (hbind s0 (.ref a)) (.cons rfl .nil) (hsp H hO hS)) fun r s' h => ?_
    match r, h with
    | .error e, h => obtain ⟨_, _, _, _, _, _, _, _, _, _, _, _, z⟩ := h; exact z.elim
    | .ok .next, h => exact (show False from h).elim
    | .ok .brk, h => exact (show False from h).elim
    | .ok .cont, h => exact (show False from h).elim
    | .ok (.ret u), h =>
      obtain ⟨v, H', os, bare, un, hok', r', q⟩ := h
      have ev : v = .bl true := q
      subst ev
      obtain rfl : u = Value.bool true := r'
      refine ⟨rfl, OldK.of_keep fun b o e => ?_, os, bare⟩
      cases q : H b with
      | none => exact un.keep b o e q (fun z => nomatch (show b ∈ ([] : List Addr) from z)) (by simp)
      | some u =>
        rcases hO b with z | ⟨ob, xs, z⟩
        · rw [q] at z; cases z
        · obtain ⟨e1, _⟩ := hok b _ z
          obtain ⟨e2, _⟩ := hok' b _ (un.frzs b ob _ z)
          rw [e] at e1; cases e1
          exact e2
  cases hk : K.lookup a with
  | some o =>
    have e := KX a o hk
    rw [ha] at e
    cases e
    refine go (fun _ => none) (fun _ => .inl rfl) (.inr ⟨_, vs.toArray, _, hk, rfl, rfl, rfl, by rw [List.size_toArray, hi.length]; exact hl, by simpa using rv⟩) (fun b u z => nomatch (show (none : Option HO) = some u from z)) (fun b z => absurd rfl z) fun z => absurd rfl z
  | none =>
    have at1 : ∀ b, b ≠ a → (if b = a then some (HO.frz { cls := .type "list", data := .seq vs.toArray } (.lst (ns.map V.int))) else none) = none := fun b hb => if_neg hb
    refine go (fun b => if b = a then some (.frz { cls := .type "list", data := .seq vs.toArray } (.lst (ns.map V.int))) else none) (fun b => ?_) (.inl (.inr ⟨_, if_pos rfl⟩)) (fun b u z => ?_) (fun b z => Classical.byContradiction fun n => z (at1 b n)) fun _ => hk
    · by_cases hb : b = a
      · exact .inr ⟨_, _, if_pos hb⟩
      · exact .inl (at1 b hb)
    · by_cases hb : b = a
      · have z' := (if_pos hb).symm.trans z
        cases z'
        subst hb
        exact ⟨ha, by rw [List.length_map]; exact hl, vs, _, rv, ha⟩
      · have z' := (at1 b hb).symm.trans z
        cases z'
/-- the end -/
theorem walkG {l : PySem.W.OpenLaw} {n k : Nat} {q : Program} {loose : List Str} {XP : (Str → Option Value) → Heap → Prop} {YP : World → Heap → Prop} {d : DefRec} {K : Params → PySem.W.Frag} {sp : World → Sp} {x : Str}
    (hn : l.most = some n) (hn2 : n ≤ sizeLine) (hdf : d.params.defaults = []) (hr : Room k callerA) (hY : ∀ (w : World) (h : Heap), YP w h → (K w.params).In h)
    (F : ∀ (w : World) (mg : Str → Option Value) (fa : Addr) (h : Heap), (K w.params).In h → h.Ns mainGlobals mg → mg d.name = some (.ref fa) →
      ∃ fd : FuncData, (∀ (s : Shared) (u : Value), BindsTo s fd ⟨[u], []⟩ [(x, u)]) ∧ ∀ base : Heap, (K w.params).In base → base.Ns mainGlobals mg → FnG l.prog w (K w.params) mg base k fa fd [x] (sp w))
    (hsp : ∀ (w : World) (H : Hp) (a : Addr) (ns : List Int), ns.length ≤ n → Only H → SqL (K w.params) H a (ns.map V.int) → sp w [.ref a] H (fun v _ => v = .bl true) fun _ _ _ => False) :
    PySem.W.WalkO q loose XP YP l.row.toRowW d [] (fun f vs => PySem.call f vs) := by
  refine Att.attach_call hn hdf fun w s s0 mg mb fa o pm cd doc a vs ns G Y ho hd hcd hmg hobj hints hlen hg => ?_
  obtain ⟨fd, hb, hF⟩ := F w mg fa _ (hY w _ Y) G.T.g hmg
  exact lawG (hY w _ Y) G.T.g G.T.b G.T.builtins G.T.nolimit hg hobj hints (Nat.le_trans hlen hn2) hr hF hb fun H hO hS => hsp w H a ns hlen hO hS
end VL
set_option Elab.async false
set_option linter.all false
set_option maxRecDepth 100000
set_option maxHeartbeats 4000000
namespace VL
open PySem PySem.Spec PyProof.Rows L2
/-! ### // by a divisor below 2 ** 200 -/
def CDivB (i j : Int) : Prop := j ≠ 0 ∧ j.natAbs < 1606938044258990275541962092341162602522202993782792835301376
theorem op_fdivB {X : Cx} : OpR X (binaryOp .FloorDiv) (rI CDivB fun i j => .int (i.fdiv j)) := opI fun i j _ _ _ _ _ hc q => floordiv_int hc.1 q (.inl (PyProof.noPylong_of_log2 (by
  have h0 : j.natAbs ≠ 0 := by have := hc.1; omega
  have h := hc.2
  have h200 : j.natAbs.log2 < 200 := (Nat.log2_lt h0).mpr h
  omega)))
/-! ### a bag of drawn numbers: a dict with two lists, its own -/
abbrev kC : Key := .inr "cells"
/-- .. over values -/
@[simp] def svTake (r : Addr) : SV
  | [.raw v, .py (.int m)], Q, _ => v = .ref r ∧ 0 < m ∧ m < 1606938044258990275541962092341162602522202993782792835301376 ∧ ∀ x : Int, 0 ≤ x → x < m → Q (.py (.int x))
  | _, _, _ => False
theorem svTake_ex {r : Addr} : ∀ {ds : List D} {Q : D → Prop} {E : Er → Prop}, svTake r ds Q E → ∃ m : Int, ds = [.raw (.ref r), .py (.int m)] ∧ 0 < m ∧ m < 1606938044258990275541962092341162602522202993782792835301376 ∧ ∀ x : Int, 0 ≤ x → x < m → Q (.py (.int x))
  | [.raw v, .py (.int m)], _, _, ⟨e, h⟩ => ⟨m, by rw [e], h⟩
def AllIn (xs : List PyData) (R : PyData → Prop) : Prop := ∀ y ∈ xs, R y
/-- an item of a list or tuple, by a drawn number -/
@[simp] def svPick (r : Addr) : SV
  | [.raw v, .py (.list xs)], Q, _ => v = .ref r ∧ xs ≠ [] ∧ xs.length < 1606938044258990275541962092341162602522202993782792835301376 ∧ AllIn xs fun y => Q (.py y)
  | [.raw v, .py (.tuple xs)], Q, _ => v = .ref r ∧ xs ≠ [] ∧ xs.length < 1606938044258990275541962092341162602522202993782792835301376 ∧ AllIn xs fun y => Q (.py y)
  | [.raw v, .py (.str z)], Q, _ => v = .ref r ∧ z.length ≤ sizeLine ∧ signsD z ≠ [] ∧ AllIn (signsD z) fun y => Q (.py y)
  | _, _, _ => False
end VL
namespace VL
open PySem
theorem plain_ints (l : List Int) : PyData.plainAll (l.map PyData.int) = true := by
  induction l with
  | nil => rfl
  | cons a l ih => simp [PyData.plainAll, PyData.plain, ih]
end VL
namespace VL
open PySem PySem.Spec PyProof.Rows L2
/-- no surroundings -/
def bg0 : Bg := ⟨fun _ => 0, fun _ => False, fun _ => True, fun _ _ _ _ _ => trivial, fun _ _ _ h => h.elim⟩
theorem VOk.plain {σ : L2.St} {H : Hp} {ρ : VEnv} (hl : ρ.length = σ.length) (h : ∀ (i : Nat) (s : Slot), ρ[i]? = some s → s = .un ∨ ∃ d v, s = .shr d ∧ σ[i]? = some (some v) ∧ Rp bg0 nz H v d) : VOk bg0 nz nz σ H ρ where
  g := trivial
  zb := fun _ z => z
  zo := fun _ z => z
  dom := fun _ z => z.elim
  zi := fun _ z => z.elim
  own := fun i d e => by rcases h i _ e with q | ⟨d', v, q, _⟩ <;> cases q
  inj := fun i j d e a h1 _ _ _ => by rcases h i _ h1 with q | ⟨d', v, q, _⟩ <;> cases q
  shr := fun i d e => by
    rcases h i _ e with q | ⟨d', v, q, h1, h2⟩
    · cases q
    · cases q; exact ⟨v, h1, h2⟩
  len := hl
theorem cut_ints (ns : List Int) (lo hi : Option Int) : ∃ ms : List Int, cutV (ns.map V.int) lo hi = ms.map V.int ∧ ms.length ≤ ns.length := by
  refine ⟨cutL ns lo hi, ?_, ?_⟩
  · unfold cutV cutL
    rw [List.length_map, List.map_take, List.map_drop]
  · unfold cutL
    rw [List.length_take, List.length_drop]
    omega
abbrev absI (i : Int) : Int := if i < 0 then -i else i
def bigs (k : Int) (cs : List Int) : List Int := cs.filter fun c => decide (k ≤ c)
theorem bigs_go {k : Int} {tt : VB} {te : VT} {ρ : VEnv} {Q : D → Prop} (h : 2 < ρ.length) (htt : ∀ (ρ : VEnv) (c : Int) (Q : Bool → Prop) (E : Er → Prop), ρ[2]? = some (.shr (.py (.int c))) → Q (decide (k ≤ c)) → tt ρ Q E)
    (hte : ∀ (ρ : VEnv) (d : D) (Q : D → Prop) (E : Er → Prop), ρ[2]? = some (.shr d) → Q d → te ρ Q E) : ∀ (cs acc : List Int), acc.length + cs.length ≤ 1000 → Q (.py (.list ((acc ++ bigs k cs).map PyData.int))) → lcGo (tgName 2) tt te Q ((cs.map PyData.int).map D.py) (acc.map PyData.int) ρ
  | [], acc, _, q => by rw [bigs, List.filter_nil, List.append_nil] at q; exact q
  | c :: cs, acc, hl, q => by
    refine ⟨h, htt _ c _ _ (List.getElem?_set_self h) (ite2 (fun hc => hte _ (.py (.int c)) _ _ (List.getElem?_set_self h) ⟨.int c, rfl, ?_, ?_⟩) fun hc => ?_)⟩
    · rw [List.length_map]
      rw [List.length_cons] at hl
      exact Nat.lt_of_le_of_lt (show acc.length ≤ 1000 by omega) (by decide)
    · have e : acc.map PyData.int ++ [PyData.int c] = (acc ++ [c]).map PyData.int := by simp
      rw [e]
      refine bigs_go h htt hte cs (acc ++ [c]) (by simp at hl ⊢; omega) ?_
      rw [bigs, List.filter_cons, if_pos hc] at q
      rw [List.append_assoc]
      exact q
    · refine bigs_go h htt hte cs acc (by simp at hl; omega) ?_
      rw [bigs, List.filter_cons, if_neg hc] at q
      exact q
end VL
set_option Elab.async false
set_option linter.all false
set_option maxRecDepth 100000
set_option maxHeartbeats 4000000
namespace VL
open PySem PySem.Spec PyProof.Rows L2
open Sem (wp)
/-! ### x[::-1] -/
section
variable {X : Cx} {b : Bg} {W : WX} {e e1 e2 st : Expr} {t t1 t2 : VT} {tl : VO} {p2 pos : Pos}
@[simp] def gBk : D → (D → Prop) → Prop
  | .py (.list xs), Q => Q (.py (.list xs.reverse))
  | .py (.tuple xs), Q => Q (.py (.tuple xs.reverse))
  | _, _ => False
@[simp] def vBk (t : VT) (tl : VO) : VT := fun ρ Q E => t ρ (fun x => tl ρ (fun k => k = some (-1) ∧ gBk x Q) E) E
/-! ### products, minus -/
@[simp] def gMul : D → D → (D → Prop) → Prop
  | .py (.int i), .py (.int j), Q => CMul i j ∧ Q (.py (.int (i * j)))
  | .py (.list xs), .py (.int k), Q => (-(2 ^ 63) ≤ k ∧ k < 2 ^ 63 ∧ xs.length * k.toNat ≤ sizeLine) ∧ Q (.py (.list (List.replicate k.toNat xs).flatten))
  | .py (.tuple xs), .py (.int k), Q => (xs ≠ [] ∧ 2 ≤ k ∧ k ≤ 1000 ∧ xs.length ≤ 1000) ∧ Q (.py (.tuple (List.replicate k.toNat xs).flatten))
  | _, _, _ => False
@[simp] def gRepL : D → D → (D → Prop) → Prop
  | .py (.list xs), .py (.int k), Q => (-(2 ^ 63) ≤ k ∧ k < 2 ^ 63 ∧ xs.length * k.toNat ≤ sizeLine) ∧ Q (.py (.list (List.replicate k.toNat xs).flatten))
  | _, _, _ => False
theorem rn_rep : OpD b (RN b) rRep gRepL := by
  intro Z H x y dx dy Q Qd gd rx ry h k
  match dx, dy, h, rx, ry with
  | .py (.list xs), .py (.int n), ⟨⟨h1, h2, h3⟩, h⟩, rx, ry =>
    obtain ⟨a, us, rfl, ha, qa⟩ := rx.list
    refine ⟨a, n, us, rfl, ry.int, ha, h1, h2, by rw [qa.length]; exact h3, fun p hp => k _ _ (.py (.list _)) (Ex.new hp) (gd.new hp) ⟨p, rfl, hp, _, upd_same, (qa.rep n.toNat).up' hp⟩ h⟩
theorem rd_mul : OpD b (RE b) (fun x y H Q => rI CMul (fun i j => .int (i * j)) x y H Q ∨ (fun x y H Q => rRep x y H Q ∨ rRepF X.K x y H Q) x y H Q) gMul := by
  intro Z H x y dx dy Q Qd gd rx ry h k
  match dx, dy, h, rx, ry with
  | .py (.int i), .py (.int j), ⟨hc, h⟩, rx, ry =>
    rw [rx.int, ry.int]
    exact .inl ⟨i, j, rfl, rfl, hc, k _ H (.py (.int (i * j))) Ex.refl gd.g (.int _) h⟩
  | .py (.list xs), .py (.int n), h, rx, ry => exact .inr (.inl (OpD.toE rn_rep Z H x y (.py (.list xs)) (.py (.int n)) Q Qd gd rx ry h k))
  | .py (.tuple xs), .py (.int n), ⟨⟨h1, h2, h3, h4⟩, h⟩, rx, ry =>
    obtain ⟨a, oa, us, rfl, ha, da, na, qa⟩ := rx.tuple
    refine .inr (.inr ⟨a, n, us, rfl, ry.int, SqT.th ha, fun e => ?_, h2, h3, by rw [qa.length]; exact h4, fun p o hp ho => k _ _ (.py (.tuple _)) (Ex.new hp) (gd.new hp) (.tup upd_same ho (gd.fresh hp) ((qa.rep n.toNat).up hp)) h⟩)
    subst e
    cases qa
    exact h1 rfl
theorem vn_mul (h1 : VX X b W e1 t1) (h2 : VX X b W e2 t2) : VN X b W (.BinOp e1 .Mult e2 pos) (vBin gRepL t1 t2) := vn_op op_rep rn_rep h1 h2
@[simp] def gNeg : D → (D → Prop) → Prop
  | .py (.int i), Q => Q (.py (.int (-i)))
  | _, _ => False
theorem ve_neg (h : VX X b W e t) : VE X b W (.UnaryOp .USub e pos) (vUn gNeg t) :=
  pe_mono (pe_un un_neg h) fun σ H Q ⟨Zo, Z, ρ, Qd, Ed, v, q, l, m⟩ => ⟨Zo, Z, ρ, _, Ed, v, q, fun x H1 d x1 g1 r1 q1 => by
    match d, q1, r1 with
    | .py (.int i), q1, r1 => exact ⟨i, r1.int, l _ H1 (.py (.int (-i))) x1 g1 (Rq.int _) q1⟩, m⟩
/-! ### dict displays -/
@[simp] def vD0 : VT := fun _ Q _ => Q (.py (.dict []))
theorem vn_dict0 : VN X b W (.Dict [] [] pos) vD0 := pe_mono pe_dnewK fun σ H Q ⟨Zo, Z, ρ, Qd, Ed, v, q, l, m⟩ p hp => l _ _ (.py (.dict [])) (Ex.new hp) (Bg.new v.g hp) ⟨p, rfl, hp, [], upd_same, .nil⟩ q
@[simp] def vD1 (k : Key) (t : VT) : VT := fun ρ Q E => t ρ (fun d => ∃ p, d = .py p ∧ Q (.py (.dict [(kD k, p)]))) E
end
end VL
set_option Elab.async false
set_option linter.all false
set_option maxRecDepth 100000
set_option maxHeartbeats 4000000
namespace VL
open PySem PySem.Spec PyProof.Rows L2
theorem bb_int : bootBuiltins "int" = some (.type "int") := by decide +kernel
theorem bb_str : bootBuiltins "str" = some (.type "str") := by decide +kernel
theorem bb_bool : bootBuiltins "bool" = some (.type "bool") := by decide +kernel
theorem bb_tuple : bootBuiltins "tuple" = some (.type "tuple") := by decide +kernel
theorem bb_list : bootBuiltins "list" = some (.type "list") := by decide +kernel
theorem bb_sum : bootBuiltins "sum" = some (.builtin "sum") := by decide +kernel
theorem bb_all : bootBuiltins "all" = some (.builtin "all") := by decide +kernel
theorem bb_max : bootBuiltins "max" = some (.builtin "max") := by decide +kernel
theorem bb_min : bootBuiltins "min" = some (.builtin "min") := by decide +kernel
theorem bb_isi : bootBuiltins "isinstance" = some (.builtin "isinstance") := by decide +kernel
section
variable {X : Cx} {b : Bg} {W : WX} {e : Expr} {es : List Expr} {u : VA} {p pos : Pos} {t : VT}
theorem ve_tupleC (hg : Gl X "tuple") (hm : X.mg "tuple" = none) (ha : VXs X b W (e :: es) u) (he : starEach (e :: es) X.env = (false, eval e X.env) :: starEach es X.env := by rfl) (hpl : (backTo pos (starEach es X.env)).any (·.1) = false := by rfl) :
    VE X b W (.Call (.Name "tuple" p) (e :: es) [] pos) (vCal gTuple u) := ve_callTy call_tupF rd_tuple hg hm bb_tuple ha (by decide) (by decide) he hpl
theorem vn_listC (hg : Gl X "list") (hm : X.mg "list" = none) (ha : VXs X b W (e :: es) u) (he : starEach (e :: es) X.env = (false, eval e X.env) :: starEach es X.env := by rfl) (hpl : (backTo pos (starEach es X.env)).any (·.1) = false := by rfl) :
    VN X b W (.Call (.Name "list" p) (e :: es) [] pos) (vCal gList u) := vn_callTy call_list_of rd_list hg hm bb_list ha (by decide) (by decide) he hpl
theorem ve_isi (hg : Gl X "isinstance") (hm : X.mg "isinstance" = none) (ha : VXs X b W (e :: es) u) (he : starEach (e :: es) X.env = (false, eval e X.env) :: starEach es X.env := by rfl) (hpl : (backTo pos (starEach es X.env)).any (·.1) = false := by rfl) :
    VE X b W (.Call (.Name "isinstance" p) (e :: es) [] pos) (vCal gIsi u) := ve_callB call_isi rd_isi hg hm bb_isi ha (by decide) (by decide) he hpl
theorem ve_tyInt (hg : Gl X "int") (hm : X.mg "int" = none) : VE X b W (.Name "int" pos) (vC (.raw (.ty "int"))) := ve_ty hg hm bb_int
theorem ve_tyBool (hg : Gl X "bool") (hm : X.mg "bool" = none) : VE X b W (.Name "bool" pos) (vC (.raw (.ty "bool"))) := ve_ty hg hm bb_bool
theorem ve_tyStr (hg : Gl X "str") (hm : X.mg "str" = none) : VE X b W (.Name "str" pos) (vC (.raw (.ty "str"))) := ve_ty hg hm bb_str
theorem ve_tyTuple (hg : Gl X "tuple") (hm : X.mg "tuple" = none) : VE X b W (.Name "tuple" pos) (vC (.raw (.ty "tuple"))) := ve_ty hg hm bb_tuple
theorem ve_all (hc : X.calm = true) (hg : Gl X "all") (hm : X.mg "all" = none) (ha : VXs X b W (e :: es) u) (he : starEach (e :: es) X.env = (false, eval e X.env) :: starEach es X.env := by rfl) (hpl : (backTo pos (starEach es X.env)).any (·.1) = false := by rfl) :
    VE X b W (.Call (.Name "all" p) (e :: es) [] pos) (vCal gAll u) := ve_callB (cr_all hc) rd_all hg hm bb_all ha (by decide) (by decide) he hpl
theorem ve_max (hc : X.calm = true) (hg : Gl X "max") (hm : X.mg "max" = none) (ha : VXs X b W (e :: es) u) (he : starEach (e :: es) X.env = (false, eval e X.env) :: starEach es X.env := by rfl) (hpl : (backTo pos (starEach es X.env)).any (·.1) = false := by rfl) :
    VE X b W (.Call (.Name "max" p) (e :: es) [] pos) (vCal gMax u) := ve_callB (CallR.or (call_max2 hc) (cr_max hc)) rd_max hg hm bb_max ha (by decide) (by decide) he hpl
theorem ve_min (hc : X.calm = true) (hg : Gl X "min") (hm : X.mg "min" = none) (ha : VXs X b W (e :: es) u) (he : starEach (e :: es) X.env = (false, eval e X.env) :: starEach es X.env := by rfl) (hpl : (backTo pos (starEach es X.env)).any (·.1) = false := by rfl) :
    VE X b W (.Call (.Name "min" p) (e :: es) [] pos) (vCal gMin u) := ve_callB (CallR.or (call_min2 hc) (cr_min hc)) rd_min hg hm bb_min ha (by decide) (by decide) he hpl
/-- a constant of the module that is an int -/
theorem ve_gint {x : Str} {i : Int} (hg : Gl X x) (hm : ∃ t, X.mg x = some (.int i t)) (hd : (x == ("__debug__" : Str)) = false := by decide) : VE X b W (.Name x pos) (vC (.py (.int i))) := by
  obtain ⟨t, h⟩ := hm
  exact ve_glob (v := .int i) hg h ⟨t, rfl⟩ (fun _ _ => .int i) hd
end
/-! ### a def that is called: all that its call wants -/
structure Cal (P : Program) (w : World) (K : PySem.W.Frag) (mg : Str → Option Value) (base : Heap) (b : Bg) (k : Nat) (x : Str) (ps : List Str) (S : SV) where
  f : Addr
  fd : FuncData
  F : FnOk P w K mg base (L2.CX P w) k f fd ps (spV b S)
  g : mg x = some (.ref f)
  kp : PySem.W.keepIn K (.ref f) = true
  bd : Binds K fd ps []
section
variable {X : Cx} {b : Bg} {W : WX} {k j : Nat} {x : Str} {ps : List Str} {S : SV} {e : Expr} {es : List Expr} {u : VA} {p pos : Pos}
theorem ve_cal (c : Cal X.prog X.w X.K X.mg X.base b k x ps S) (hr : Room j X.A) (tk : Takes X W) (hg : Gl X x) (ha : VAs X b W (e :: es) u) (hk : k ≤ j := by decide) (hdb : (x == ("__debug__" : Str)) = false := by decide)
    (he : starEach (e :: es) X.env = (false, eval e X.env) :: starEach es X.env := by rfl) (hpl : (backTo pos (starEach es X.env)).any (·.1) = false := by rfl) : VE X b W (.Call (.Name x p) (e :: es) [] pos) (vCall S u) :=
  ve_call c.F (hr.mono hk) tk hg c.g c.kp c.bd ha hdb he hpl
end
section
variable {X : Cx} {b : Bg} {W : WX} {tg iter elt c : Expr} {ifs : List Expr} {scope : Scope} {own : List (Str × Nat)} {pos spos py : Pos} {ti : VIt} {js : List Nat} {g : VTg} {tt : VB} {te : VT} {i : Nat} {y : Str} {t : VT}
theorem LE.new : ∀ σ H Q, LE b W (RE b) t σ H Q → LE b W (RN b) t σ H Q := fun σ H Q ⟨Zo, Z, ρ, Qd, Ed, v, q, l, m⟩ => ⟨Zo, Z, ρ, Qd, Ed, v, q, fun u H' d x g ⟨a, e, n, o⟩ => by
  subst e
  exact l _ H' d x g (o.rp (fun _ z => .inl z) (v.fresh n)), m⟩
/-- name = [..] on one line, shared from then on -/
theorem vs_setLcE (hc : X.calm = true) (hN : X.N.Nodup) (hy : X.N[i]? = some y) (hyl : X.env.scope.names.lookup y = some .local) (hsw : swapsWith (.ListComp elt [⟨tg, iter, ifs, 0⟩] scope pos) (some (.Name y py)) spos.line X.env = pure true)
    (hi : VIb X b W tg iter ti) (ok : BlkOk X.N X.env.scope scope own) (hjs : ∀ j ∈ js, j ∈ own.map (·.2))
    (hg : ∀ (s : Shared) (H : Hp) (C : Addr) (cl : List (Str × Addr)) (fp : List Addr), VG (X.blk s H scope (compEnvC scope cl C X.env) fp) b tg js g) (ht : ∀ (s : Shared) (H : Hp) (C : Addr) (cl : List (Str × Addr)) (fp : List Addr), VTs (X.blk s H scope (compEnvC scope cl C X.env) fp) b ifs tt)
    (he : ∀ (s : Shared) (H : Hp) (C : Addr) (cl : List (Str × Addr)) (fp : List Addr), VE (X.blk s H scope (compEnvC scope cl C X.env) fp) b noW elt te) (hs : ∀ x, foldedSetIterable iter X.env x = pure x := by intro _; rfl) :
    VSt X b W (.Assign [.Name y py] (.ListComp elt [⟨tg, iter, ifs, 0⟩] scope pos) spos) (sSet i (vLc (own.map (·.2)) ti g tt te)) :=
  vs_set (ps_setLc hc hN hy hyl hsw hi ok hg ht he hs) fun σ H Q q => lc_sound hjs σ H Q (LE.new σ H Q q)
end
end VL
set_option Elab.async false
set_option linter.all false
set_option maxRecDepth 100000
set_option maxHeartbeats 4000000
namespace VL
open PySem PySem.Spec PyProof.Rows L2
@[simp] theorem szl : sizeLine = 16777216 := sizeLine_eq
@[simp] def asB : D → (Bool → Prop) → Prop
  | .py (.bool k), Q => Q k
  | _, _ => False
@[simp] def asI : D → (Int → Prop) → Prop
  | .py (.int k), Q => Q k
  | _, _ => False
@[simp] def asP : D → (PyData → Prop) → Prop
  | .py k, Q => Q k
  | _, _ => False
@[simp 2000] theorem ex_bool (d : D) (Q : Bool → Prop) : (∃ k, d = .py (.bool k) ∧ Q k) ↔ asB d Q := by
  refine ⟨fun ⟨k, e, q⟩ => by rw [e]; exact q, fun h => ?_⟩
  match d, h with
  | .py (.bool k), h => exact ⟨k, rfl, h⟩
@[simp 2000] theorem ex_int (d : D) (Q : Int → Prop) : (∃ k, d = .py (.int k) ∧ Q k) ↔ asI d Q := by
  refine ⟨fun ⟨k, e, q⟩ => by rw [e]; exact q, fun h => ?_⟩
  match d, h with
  | .py (.int k), h => exact ⟨k, rfl, h⟩
@[simp 2000] theorem ex_py (d : D) (Q : PyData → Prop) : (∃ k, d = .py k ∧ Q k) ↔ asP d Q := by
  refine ⟨fun ⟨k, e, q⟩ => by rw [e]; exact q, fun h => ?_⟩
  match d, h with
  | .py k, h => exact ⟨k, rfl, h⟩
@[simp 2000] theorem ex_pys (ds : List D) (Q : List PyData → Prop) : (∃ ps, pys ds = some ps ∧ Q ps) ↔ asO (pys ds) Q := by
  refine ⟨fun ⟨k, e, q⟩ => by rw [e]; exact q, asO_ex⟩
/-! ### comprehensions, loops: how their readings are met -/
/-- one turn of a comprehension -/
def lcStep (g : VTg) (tt : VB) (te : VT) (d : D) (ρ : VEnv) (k : Option PyData → Prop) : Prop :=
  g d ρ fun ρ1 => tt ρ1 (fun b => if b = true then te ρ1 (fun y => ∃ p, y = .py p ∧ k (some p)) noE else k none) noE
section
variable {g : VTg} {tt : VB} {te : VT} {ρ : VEnv} {Q : D → Prop}
theorem lcGo_cons {d : D} {ds : List D} {acc : List PyData} (h : lcStep g tt te d ρ fun o => match o with
    | some p => acc.length < sizeLine ∧ lcGo g tt te Q ds (acc ++ [p]) ρ
    | none => lcGo g tt te Q ds acc ρ) : lcGo g tt te Q (d :: ds) acc ρ := h
/-- every turn gives just f -/
theorem lc_fun (f : PyData → Option PyData) : ∀ {xs acc : List PyData}, (∀ x ∈ xs, ∀ k, k (f x) → lcStep g tt te (.py x) ρ k) → acc.length + xs.length < 16777216 → Q (.py (.list (acc ++ xs.filterMap f))) → lcGo g tt te Q (xs.map D.py) acc ρ
  | [], acc, _, _, q => by simpa using q
  | x :: xs, acc, h, hl, q => by
    refine lcGo_cons (h x List.mem_cons_self _ ?_)
    have hr : ∀ y ∈ xs, ∀ k, k (f y) → lcStep g tt te (.py y) ρ k := fun y hy => h y (List.mem_cons_of_mem _ hy)
    rw [List.length_cons] at hl
    rw [List.filterMap_cons] at q
    cases e : f x with
    | none => rw [e] at q; exact lc_fun f hr (by omega) q
    | some p =>
      rw [e] at q
      refine ⟨by rw [szl]; omega, lc_fun f hr (by rw [List.length_append, List.length_singleton]; omega) ?_⟩
      rw [List.append_assoc]
      exact q
/-- every turn keeps an item, with R -/
theorem lc_rel (R : PyData → PyData → Prop) : ∀ {xs acc : List PyData}, (∀ x ∈ xs, ∀ k, (∀ p, R x p → k (some p)) → lcStep g tt te (.py x) ρ k) → acc.length + xs.length < 16777216 →
    (∀ ps : List PyData, ps.length = xs.length → (∀ (i : Nat) (x p : PyData), xs[i]? = some x → ps[i]? = some p → R x p) → Q (.py (.list (acc ++ ps)))) → lcGo g tt te Q (xs.map D.py) acc ρ
  | [], acc, _, _, q => by
    have := q [] rfl (fun i x p e => by simp at e)
    simpa using this
  | x :: xs, acc, h, hl, q => by
    refine lcGo_cons (h x List.mem_cons_self _ fun p hp => ?_)
    rw [List.length_cons] at hl
    refine ⟨by rw [szl]; omega, lc_rel R (fun y hy => h y (List.mem_cons_of_mem _ hy)) (by rw [List.length_append, List.length_singleton]; omega) fun ps e r => ?_⟩
    rw [List.append_assoc]
    refine q (p :: ps) (by simp [e]) fun i y z e1 e2 => ?_
    cases i with
    | zero =>
      simp at e1 e2
      subst e1 e2
      exact hp
    | succ i => exact r i y z (by simpa using e1) (by simpa using e2)
/-- .. whatever its turn -/
theorem lc_mem (R : PyData → Prop) {xs acc : List PyData} (h : ∀ x ∈ xs, ∀ k, (∀ p, R p → k (some p)) → lcStep g tt te (.py x) ρ k) (hl : acc.length + xs.length < 16777216)
    (q : ∀ ps : List PyData, ps.length = xs.length → (∀ p ∈ ps, R p) → Q (.py (.list (acc ++ ps)))) : lcGo g tt te Q (xs.map D.py) acc ρ :=
  lc_rel (fun _ p => R p) h hl fun ps e r => q ps e fun p hp => by
    obtain ⟨i, hi⟩ := List.getElem?_of_mem hp
    have hlt : i < xs.length := by rw [← e]; exact (List.getElem?_eq_some_iff.mp hi).1
    exact r i xs[i] p (List.getElem?_eq_getElem hlt) hi
end
section
variable {g : VTg} {tb : VS} {De : VEnds}
/-- a loop by its turns: Iv ahead of turn i -/
theorem for_inv (Iv : Nat → VEnv → Prop) {xs : List PyData} (h : ∀ i x ρ, xs[i]? = some x → Iv i ρ → ∀ nx ct : VEnv → Prop, (∀ ρ', Iv (i + 1) ρ' → nx ρ' ∧ ct ρ') → g (.py x) ρ fun ρ1 => tb ρ1 ⟨nx, De.rt, De.nx, ct, De.ex, De.ro⟩) (hd : ∀ ρ, Iv xs.length ρ → De.nx ρ) :
    ∀ {ρ : VEnv}, Iv 0 ρ → forGo g tb (xs.map D.py) ρ De := by
  have go : ∀ (n : Nat) (ρ : VEnv), Iv n ρ → n ≤ xs.length → forGo g tb ((xs.drop n).map D.py) ρ De := by
    intro n
    induction hk : xs.length - n generalizing n with
    | zero =>
      intro ρ iv hn
      have e : n = xs.length := by omega
      subst e
      rw [List.drop_length]
      exact hd ρ iv
    | succ m ih =>
      intro ρ iv hn
      have hlt : n < xs.length := by omega
      rw [List.drop_eq_getElem_cons hlt, List.map_cons]
      exact h n xs[n] ρ (List.getElem?_eq_getElem hlt) iv _ _ fun ρ' iv' => ⟨ih (n + 1) (by omega) ρ' iv' hlt, ih (n + 1) (by omega) ρ' iv' hlt⟩
  intro ρ iv
  have := go 0 ρ iv (Nat.zero_le _)
  rwa [List.drop_zero] at this
end
/-! ### plain data -/
@[simp] theorem eqv_lnil (xs : List PyData) : (PyData.list xs).eqv (.list []) = xs.isEmpty := by cases xs <;> rfl
@[simp] theorem eqv_tnil (xs : List PyData) : (PyData.tuple xs).eqv (.tuple []) = xs.isEmpty := by cases xs <;> rfl
@[simp] theorem eqv_lt (xs ys : List PyData) : (PyData.list xs).eqv (.tuple ys) = false := rfl
@[simp] theorem eqv_tl (xs ys : List PyData) : (PyData.tuple xs).eqv (.list ys) = false := rfl
@[simp] theorem eqv_ii (i j : Int) : (PyData.int i).eqv (.int j) = (i == j) := rfl
@[simp] theorem eqv_ss (i j : Str) : (PyData.str i).eqv (.str j) = (i == j) := rfl
@[simp] theorem plain_none : PyData.none.plain = true := rfl
@[simp] theorem plain_bool (k : Bool) : (PyData.bool k).plain = true := rfl
@[simp] theorem plain_int (i : Int) : (PyData.int i).plain = true := rfl
@[simp] theorem plain_str (i : Str) : (PyData.str i).plain = true := rfl
@[simp] theorem plain_list (xs : List PyData) : (PyData.list xs).plain = PyData.plainAll xs := by simp only [PyData.plain]
@[simp] theorem plain_tuple (xs : List PyData) : (PyData.tuple xs).plain = PyData.plainAll xs := by simp only [PyData.plain]
@[simp] theorem plainAll_nil : PyData.plainAll [] = true := rfl
@[simp] theorem plainAll_cons (x : PyData) (xs : List PyData) : PyData.plainAll (x :: xs) = (x.plain && PyData.plainAll xs) := by simp only [PyData.plainAll]
@[simp] theorem plainAll_ints (xs : List Int) : PyData.plainAll (xs.map PyData.int) = true := plain_ints xs
@[simp] theorem depth_nil : (PyData.list []).depth = 1 := rfl
@[simp] theorem depth_tnil : (PyData.tuple []).depth = 1 := rfl
@[simp] theorem depth_int (i : Int) : (PyData.int i).depth = 0 := rfl
@[simp] theorem depth_str (i : Str) : (PyData.str i).depth = 0 := rfl
@[simp] theorem depth_none : PyData.none.depth = 0 := rfl
@[simp] theorem depth_bool (k : Bool) : (PyData.bool k).depth = 0 := rfl
@[simp] theorem depth_list (xs : List PyData) : (PyData.list xs).depth = PyData.depthAll xs + 1 := by simp only [PyData.depth]
@[simp] theorem depth_tuple (xs : List PyData) : (PyData.tuple xs).depth = PyData.depthAll xs + 1 := by simp only [PyData.depth]
@[simp] theorem depthAll_nil : PyData.depthAll [] = 0 := rfl
@[simp] theorem depthAll_cons (x : PyData) (xs : List PyData) : PyData.depthAll (x :: xs) = max x.depth (PyData.depthAll xs) := by simp only [PyData.depthAll]
end VL
namespace VL
open PySem PySem.Spec PyProof.Rows L2
@[simp] theorem cpow_iff (i j : Int) : CPow i j ↔ (0 ≤ j ∧ j ≤ 1000000 ∧ i.natAbs < 2 ^ 64) := Iff.rfl
@[simp] theorem cdivn_iff (i j : Int) : CDivN i j ↔ (j ≠ 0 ∧ j.natAbs < 1073741824) := Iff.rfl
@[simp] theorem cmul_iff (i j : Int) : CMul i j ↔ ((-(2 ^ 64) < i ∧ i < 2 ^ 64) ∨ (-(2 ^ 64) < j ∧ j < 2 ^ 64)) := Iff.rfl
end VL
namespace VL
open PySem PySem.Spec PyProof.Rows L2
theorem atI_ok {α : Type} {xs : List α} {i : Int} (h0 : 0 ≤ i) (h1 : i < xs.length) : ∃ d, atI xs i = some d ∧ d ∈ xs := by
  obtain ⟨j, rfl⟩ := Int.eq_ofNat_of_zero_le h0
  have hj : j < xs.length := by omega
  exact ⟨xs[j], atI_nat (List.getElem?_eq_getElem hj), List.getElem_mem hj⟩
@[simp] theorem rangeP_len (lo : Int) (n : Nat) : (rangeP lo n).length = n := by simp [rangeP]
end VL
set_option Elab.async false
set_option linter.all false
set_option maxRecDepth 100000
set_option maxHeartbeats 4000000
namespace VL
open PySem PySem.Spec PyProof.Rows L2
/-! ### the law: the first statement makes the bag, the rest is read over values -/
theorem pss_ex {X : Cx} {sts : List Stmt} {α : Type} {t : α → TS} (h : ∀ x, PSs X sts (t x)) : PSs X sts (fun D σ H => ∃ x, t x D σ H) := ⟨fun pins s σ H D I ⟨x, q⟩ => (h x).run pins s σ H D I q⟩
def spLaw (K : PySem.W.Frag) : Sp := fun vs H Q _ => ∃ (a : Addr) (ns : List Int), vs = [.ref a] ∧ SqL K H a (ns.map V.int) ∧ ns.length ≤ 63 ∧ ∀ H', Q (.bl true) H'
/-- the names' values behind the first statement: the bag in slot i -/
def envBag (n i : Nat) (r : Addr) : VEnv := (List.replicate n Slot.un).set i (.shr (.raw (.ref r)))
abbrev isTrue' : D → Prop := fun d => d = .py (.bool true)
theorem envBag_at {n i j : Nat} {r : Addr} {s : Slot} (h : (envBag n i r)[j]? = some s) : s = .un ∨ (j = i ∧ s = .shr (.raw (.ref r))) := by
  unfold envBag at h
  by_cases e : i = j
  · subst e
    by_cases hn : i < n
    · rw [List.getElem?_set_self (by simpa using hn)] at h; cases h; exact .inr ⟨rfl, rfl⟩
    · rw [List.getElem?_eq_none (by simp; omega)] at h; cases h
  · rw [List.getElem?_set_ne e, List.getElem?_replicate] at h
    split at h
    · cases h; exact .inl rfl
    · cases h
end VL
set_option Elab.async false
set_option linter.all false
set_option maxRecDepth 100000
set_option maxHeartbeats 4000000
namespace VL
open PySem PySem.Spec PyProof.Rows L2 HT
/-! ### slices as take and drop -/
theorem cutL_take {α : Type} (xs : List α) {x : Int} (h : 0 ≤ x) : cutL xs none (some x) = xs.take x.toNat := by
  simp only [cutL, HT.sIx]
  rw [if_neg (by omega), List.drop_zero, Nat.sub_zero]
  by_cases c : x.toNat ≤ xs.length
  · rw [Nat.min_eq_left c]
  · rw [Nat.min_eq_right (by omega), List.take_length, List.take_of_length_le (by omega)]
theorem cutL_drop {α : Type} (xs : List α) {x : Int} (h : 0 ≤ x) : cutL xs (some x) none = xs.drop x.toNat := by
  simp only [cutL, HT.sIx]
  rw [if_neg (by omega)]
  by_cases c : x.toNat ≤ xs.length
  · rw [Nat.min_eq_left c, List.take_of_length_le (by rw [List.length_drop]; omega)]
  · rw [Nat.min_eq_right (by omega), List.drop_length, List.take_nil, List.drop_of_length_le (by omega)]
end VL
set_option Elab.async false
set_option linter.all false
set_option maxRecDepth 100000
set_option maxHeartbeats 4000000
namespace VL
open PySem PySem.Spec PyProof.Rows L2 HT
/-! ### the facts of a def, for the join -/
structure DefK (K : PySem.W.Frag) (x : Str) (st : Stmt) : Prop where
  ex : ∃ (f : Addr) (oc kV doc pm cdv ct : Value) (od an : Option Addr) (osl : Array (Option Value)), PySem.W.nsIn K mainGlobals x = some (some (.ref f)) ∧ K.lookup f = some ⟨oc, od, .func (PySem.W.fnOf x x (defArgs st) (defBody st) (defScope st) .none kV doc pm an cdv ct), osl⟩ ∧ PySem.W.codeIn K cdv x = true ∧ PySem.W.keepIn K (.ref f) = true
theorem defK {K : PySem.W.Frag} {x : Str} {st : Stmt} {f : Addr} {oc kV doc pm cdv ct : Value} {od an : Option Addr} {osl : Array (Option Value)} (a : PySem.W.nsIn K mainGlobals x = some (some (.ref f)))
    (l : K.lookup f = some ⟨oc, od, .func (PySem.W.fnOf x x (defArgs st) (defBody st) (defScope st) .none kV doc pm an cdv ct), osl⟩) (c : PySem.W.codeIn K cdv x = true) (k : PySem.W.keepIn K (.ref f) = true) : DefK K x st := ⟨f, oc, kV, doc, pm, cdv, ct, od, an, osl, a, l, c, k⟩
theorem DefK.use {K : PySem.W.Frag} {x : Str} {st : Stmt} {h : Heap} {mg : Str → Option Value} (d : DefK K x st) (X : K.In h) (G : h.Ns mainGlobals mg) : ∃ (f : Addr) (fd : FuncData), Fun K x x st f fd ∧ mg x = some (.ref f) ∧ PySem.W.keepIn K (.ref f) = true ∧ fd.defaults = .none := by
  obtain ⟨f, oc, kV, doc, pm, cdv, ct, od, an, osl, a, l, c, k⟩ := d.ex
  exact ⟨f, _, fun_mk l c k, PySem.W.mg_of X G a, k, rfl⟩
end VL
set_option Elab.async false
set_option linter.all false
set_option maxRecDepth 100000
set_option maxHeartbeats 4000000
namespace VL
open PySem PySem.Spec PyProof.Rows L2 HT
/-! ### an owned list is changed by a method -/
def MutD (b : Bg) (r : V → List V → Hp → VK → Prop) (g : List PyData → List D → (D → List PyData → Prop) → Prop) : Prop :=
  ∀ (Z : Addr → Prop) (H : Hp) (a : Addr) (xs : List V) (vs : List V) (p : List PyData) (ds : List D) (Q : VK) (Qd : D → List PyData → Prop), H a = some (.lst xs) → Rqs Z H xs p → Rps b Z H vs ds → g p ds Qd →
    (∀ v ys q dv, Rqs Z H ys q → Rp b Z H v dv → Qd dv q → Q v (upd H a (.lst ys))) → r (.ref a) vs H Q
@[simp] def sMut (i : Nat) (g : List PyData → List D → (D → List PyData → Prop) → Prop) (ta : VA) : VS := fun ρ De => ∃ p, ρ[i]? = some (.own (.py (.list p))) ∧ ta ρ (fun ds => g p ds fun _ q => De.nx (ρ.set i (.own (.py (.list q))))) (De.ex ρ)
section
variable {X : Cx} {b : Bg} {W : WX} {o e : Expr} {es : List Expr} {ta : VA} {i : Nat} {name : Str} {id : String} {apos cpos pos : Pos} {r : V → List V → Hp → VK → Prop} {g : List PyData → List D → (D → List PyData → Prop) → Prop}
theorem vs_mut (slot : PySem.Slot "list" name id) (hty : typeOf (.builtin id) = pure (.type "method_descriptor")) (hm : MtR X id r) (hd : MutD b r g) (ho : PE X o (tVar i)) (ha : VAs X b W (e :: es) ta)
    (hbase : attributeBase o name X.env (eval o X.env) = eval o X.env := by rfl)
    (hfew : ((backTo cpos (starEach (e :: es) X.env)).all (fun x => !x.1) && (backToKw cpos (keywordEach [] X.env)).all (fun x => x.1.isSome)
      && decide ((e :: es).length + ([] : List Keyword).length + (if ([] : List Keyword).isEmpty then 0 else 1) < 30)) = true := by rfl)
    (hline : (apos.endLine == cpos.line) = true := by rfl) (hs : starEach (e :: es) X.env = (false, eval e X.env) :: starEach es X.env := by rfl) (hplain : (backTo cpos (starEach es X.env)).any (·.1) = false := by rfl)
    (hsw : swapsWith (.Call (.Attribute o name apos) (e :: es) [] cpos) none pos.line X.env = pure false := by rfl) :
    VSt X b W (.Expr (.Call (.Attribute o name apos) (e :: es) [] cpos) pos) (sMut i g ta) :=
  ps_mono (ps_expr (pe_bm PySem.F.plainAttrs_list slot hty hm ho ha hbase hfew hline hs hplain) hsw) fun Dn σ H ⟨H0, M, Zo, Z, ρ, De, f, ⟨p, e1, q⟩, l⟩ => by
    obtain ⟨a, h1, h2, h3, xs, h4, h5⟩ := f.v.own i _ e1
    refine ⟨.ref a, h1, .inl ⟨rfl, xs, SqL.of h4⟩, Zo, Z, ρ, _, _, f.v, q, fun vs H' ds x g1 r1 q' => ?_, l.er f⟩
    have f' := f.ex x g1
    obtain ⟨a', h1', h2', h3', xs', h4', h5'⟩ := f'.v.own i _ e1
    rw [h1] at h1'; cases h1'
    refine hd Z H' a xs' vs p ds _ _ h4' h5' r1 q' fun v ys pq dv ry rv q2 => ?_
    exact l.nx _ _ _ _ (f'.mut (d' := .py (.list pq)) e1 h1 ⟨ys, upd_same, ry.mono (fun c z => .inl z) fun c u e n => by
      rw [upd_ne (fun w => n (by rw [w]; exact h2))]
      exact e⟩) q2
/-- append -/
@[simp] def gApp : List PyData → List D → (D → List PyData → Prop) → Prop
  | p, [.py x], Q => p.length < sizeLine ∧ Q (.py .none) (p ++ [x])
  | _, _, _ => False
theorem rd_app : MutD b rAppend gApp := by
  intro Z H a xs vs p ds Q Qd h rx rv g k
  match ds, g, rv with
  | [.py x], ⟨hl, q⟩, .cons (v := v) rv .nil => exact ⟨a, xs, v, rfl, rfl, h, by rw [rx.length]; exact hl, k _ _ _ (.py .none) (rx.append (.cons rv .nil)) (Rq.non : Rq Z H .non .none) q⟩
theorem vs_app (ho : PE X o (tVar i)) (ha : VAs X b W [e] ta) (hbase : attributeBase o "append" X.env (eval o X.env) = eval o X.env := by rfl)
    (hfew : ((backTo cpos (starEach [e] X.env)).all (fun x => !x.1) && (backToKw cpos (keywordEach [] X.env)).all (fun x => x.1.isSome)
      && decide ([e].length + ([] : List Keyword).length + (if ([] : List Keyword).isEmpty then 0 else 1) < 30)) = true := by rfl)
    (hline : (apos.endLine == cpos.line) = true := by rfl) (hs : starEach [e] X.env = (false, eval e X.env) :: starEach [] X.env := by rfl) (hplain : (backTo cpos (starEach [] X.env)).any (·.1) = false := by rfl)
    (hsw : swapsWith (.Call (.Attribute o "append" apos) [e] [] cpos) none pos.line X.env = pure false := by rfl) :
    VSt X b W (.Expr (.Call (.Attribute o "append" apos) [e] [] cpos) pos) (sMut i gApp ta) :=
  vs_mut PySem.F.slot_list_append PySem.F.type_list_append mt_append rd_app ho ha hbase hfew hline hs hplain hsw
end
end VL
set_option Elab.async false
set_option linter.all false
set_option maxRecDepth 100000
set_option maxHeartbeats 4000000
namespace VL
open PySem PySem.Spec PyProof.Rows L2 HT
/-! ### dicts with keys int or text: read, get, put -/
def keyOf : PyData → Option Key
  | .int i => some (.inl i)
  | .str x => some (.inr x)
  | _ => none
@[simp] theorem keyOf_kD (k : Key) : keyOf (kD k) = some k := by cases k <;> rfl
def getD (ds : List (PyData × PyData)) (k : Key) : Option PyData := (ds.find? fun p => decide (keyOf p.1 = some k)).map (·.2)
def putD (ds : List (PyData × PyData)) (k : Key) (x : PyData) : List (PyData × PyData) :=
  if (ds.any fun p => decide (keyOf p.1 = some k)) = true then ds.map (fun p => if keyOf p.1 = some k then (p.1, x) else p) else ds ++ [(kD k, x)]
section
variable {Z : Addr → Prop} {H : Hp}
theorem Rqk.any {k : Key} : ∀ {kvs : List (Key × V)} {ds : List (PyData × PyData)}, Rqk Z H kvs ds → (kvs.any fun kv => decide (kv.1 = k)) = (ds.any fun p => decide (keyOf p.1 = some k))
  | _, _, .nil => rfl
  | _, _, .cons (k := k') r t => by
    rw [List.any_cons, List.any_cons, Rqk.any t]
    simp [-kD]
theorem Rqk.get {k : Key} : ∀ {kvs : List (Key × V)} {ds : List (PyData × PyData)}, Rqk Z H kvs ds → (valV kvs k = none ∧ getD ds k = none) ∨ ∃ v d, valV kvs k = some v ∧ getD ds k = some d ∧ Rq Z H v d
  | _, _, .nil => .inl ⟨rfl, rfl⟩
  | _, _, .cons (k := k') (v := v) (d := d) r t => by
    by_cases e : k' = k
    · exact .inr ⟨v, d, valV_pos e, by simp [-kD, getD, List.find?_cons, e], r⟩
    · have h1 : ∀ r, valV ((k', v) :: r) k = valV r k := fun r => valV_neg e
      have h2 : ∀ ds, getD ((kD k', d) :: ds) k = getD ds k := fun ds => by simp [-kD, getD, List.find?_cons, e]
      rcases Rqk.get (k := k) t with ⟨a, c⟩ | ⟨v', d', a, c, q⟩
      · exact .inl ⟨by rw [h1]; exact a, by rw [h2]; exact c⟩
      · exact .inr ⟨v', d', by rw [h1]; exact a, by rw [h2]; exact c, q⟩
theorem Rqk.map {k : Key} {v : V} {x : PyData} (rx : Rq Z H v x) : ∀ {kvs : List (Key × V)} {ds : List (PyData × PyData)}, Rqk Z H kvs ds → Rqk Z H (kvs.map fun kv => if kv.1 = k then (kv.1, v) else kv) (ds.map fun p => if keyOf p.1 = some k then (p.1, x) else p)
  | _, _, .nil => .nil
  | _, _, .cons (k := k') r t => by
    rw [List.map_cons, List.map_cons]
    by_cases e : k' = k
    · simp only [keyOf_kD, e, if_true]
      exact .cons rx (Rqk.map rx t)
    · simp only [keyOf_kD, Option.some.injEq, e, if_false]
      exact .cons r (Rqk.map rx t)
theorem Rqk.snoc {k : Key} {v : V} {x : PyData} (rx : Rq Z H v x) : ∀ {kvs : List (Key × V)} {ds : List (PyData × PyData)}, Rqk Z H kvs ds → Rqk Z H (kvs ++ [(k, v)]) (ds ++ [(kD k, x)])
  | _, _, .nil => .cons rx .nil
  | _, _, .cons r t => .cons r (Rqk.snoc rx t)
theorem Rqk.put {k : Key} {v : V} {x : PyData} {kvs : List (Key × V)} {ds : List (PyData × PyData)} (rx : Rq Z H v x) (t : Rqk Z H kvs ds) : Rqk Z H (putK kvs k v) (putD ds k x) := by
  unfold putK putD
  rw [t.any]
  split
  · exact t.map rx
  · exact t.snoc rx
end
end VL
set_option Elab.async false
set_option linter.all false
set_option maxRecDepth 100000
set_option maxHeartbeats 4000000
namespace VL
open PySem PySem.Spec PyProof.Rows L2 HT
section
variable {b : Bg} {Zo Z : Addr → Prop} {σ : L2.St} {H H' : Hp} {ρ : VEnv}
theorem VOk.rqk (v : VOk b Zo Z σ H ρ) (x : Ex b H H') {u : List (Key × V)} {d : List (PyData × PyData)} (r : Rqk Z H u d) : Rqk Z H' u d := r.mono (fun a z => .inl z) (v.keep x)
/-- a borrowed dict -/
theorem VOk.rdict (v : VOk b Zo Z σ H ρ) {u : V} {ds : List (PyData × PyData)} (r : Rb b Z H u (.py (.dict ds))) : ∃ a kvs, u = .ref a ∧ H a = some (.dK kvs) ∧ ¬ b.B a ∧ Rqk Z H kvs ds := by
  rcases r with r | ⟨a, e, nb, _, kvs, h, rk⟩
  · have r : Rq Z H u (.dict ds) := r
    cases r with
    | dct h n rk => exact ⟨_, _, rfl, h, v.nb n, rk⟩
  · exact ⟨a, kvs, e, h, nb, rk⟩
theorem Rq.key {u : V} {p : PyData} {k : Key} (r : Rq Z H u p) (e : keyOf p = some k) : u = kV k := by
  cases p <;> simp only [keyOf] at e <;> cases e
  · cases r; rfl
  · cases r; rfl
end
@[simp] def vDGet2 (td ty tx : VT) : VT := fun ρ Q E => td ρ (fun d => ∃ ds, d = .py (.dict ds) ∧ ty ρ (fun y => ∃ k kk, y = .py k ∧ keyOf k = some kk ∧ tx ρ (fun z => ∃ p, z = .py p ∧ Q (.py ((getD ds kk).getD p))) E) E) E
@[simp] def vDGet1 (td ty : VT) : VT := fun ρ Q E => td ρ (fun d => ∃ ds, d = .py (.dict ds) ∧ ty ρ (fun y => ∃ k kk, y = .py k ∧ keyOf k = some kk ∧ Q (.py ((getD ds kk).getD .none))) E) E
@[simp] def vDIx (td ty : VT) : VT := fun ρ Q E => td ρ (fun d => ∃ ds, d = .py (.dict ds) ∧ ty ρ (fun y => ∃ k kk x, y = .py k ∧ keyOf k = some kk ∧ getD ds kk = some x ∧ Q (.py x)) E) E
section
variable {X : Cx} {b : Bg} {W : WX} {o e f : Expr} {td ty tx : VT} {apos cpos pos pos' : Pos} {i : Nat}
theorem ve_dget2 (hu : X.A.units + 1 < cLine) (ho : VX X b W o td) (he : VE X b W e ty) (hf : VE X b W f tx) (m : M2 X o "get" apos e f cpos) : VE X b W (.Call (.Attribute o "get" apos) [e, f] [] cpos) (vDGet2 td ty tx) :=
  pe_mono (pe_dget2 hu ho he hf m) fun σ H Q ⟨Zo, Z, ρ, Qd, Ed, v, q, l, me⟩ => ⟨Zo, Z, ρ, _, Ed, v, q, fun x H1 d x1 g1 r1 ⟨ds, ed, q1⟩ => by
    subst ed
    have v1 := v.ex x1 g1
    obtain ⟨a, kvs, rfl, h, nb, rk⟩ := v1.rdict r1
    refine ⟨a, rfl, .inl ⟨kvs, .inl h⟩, Zo, Z, ρ, _, Ed, v1, q1, fun y H2 dy x2 g2 r2 ⟨k, kk, ey, ek, q2⟩ => ?_, fun c y H2 er x2 g2 r2 q2 => me c y H2 er (x1.trans x2) g2 r2 q2⟩
    subst ey
    have v2 := v1.ex x2 g2
    refine ⟨Zo, Z, ρ, _, Ed, v2, q2, fun z H3 dz x3 g3 r3 ⟨p, ez, q3⟩ => ?_, fun c y H3 er x3 g3 r3 q3 => me c y H3 er ((x1.trans x2).trans x3) g3 r3 q3⟩
    subst ez
    have x23 := x2.trans x3
    have h3 := x23 a _ h nb
    have rk3 := v1.rqk x23 rk
    have ek' : y = kV kk := Rq.key (Z := Z) r2 ek
    refine ⟨valV kvs kk, by rw [ek']; exact DGet.k h3, l _ H3 _ (x1.trans x23) g3 ?_ q3⟩
    rcases rk3.get (k := kk) with ⟨e1, e2⟩ | ⟨u, d', e1, e2, ru⟩
    · rw [e1, e2]; exact r3
    · rw [e1, e2]; exact ru, me⟩
/-- d[k] = x for an owned dict -/
@[simp] def sDPutO (i : Nat) (ty tv : VT) : VS := fun ρ De => ∃ ds, ρ[i]? = some (.own (.py (.dict ds))) ∧ tv ρ (fun x => ∃ p, x = .py p ∧ ty ρ (fun y => ∃ k kk, y = .py k ∧ keyOf k = some kk ∧ ds.length < sizeLine ∧ De.nx (ρ.set i (.own (.py (.dict (putD ds kk p)))))) (De.ex ρ)) (De.ex ρ)
theorem vs_dputO {tv : VT} {value : Expr} (hu : X.A.units + 1 < cLine) (ho : PE X o (tVar i)) (he : VE X b W e ty) (hv : VE X b W value tv) (hs : swapsWith value (some (.Subscript o e pos')) pos.line X.env = pure false := by rfl) :
    VSt X b W (.Assign [.Subscript o e pos'] value pos) (sDPutO i ty tv) :=
  ps_mono (ps_dput hu ho he hv hs) fun Dn σ H ⟨H0, M, Zo, Z, ρ, De, f, ⟨ds, e1, q⟩, l⟩ => by
    refine ⟨Zo, Z, ρ, _, _, f.v, q, fun v H1 dv x1 g1 r1 ⟨p, ep, q1⟩ => ?_, l.er f⟩
    subst ep
    have f1 := f.ex x1 g1
    obtain ⟨a, h1, h2, h3, kvs, h4, h5⟩ := f1.v.own i _ e1
    have nb : ¬ b.B a := fun z => h3 (f1.v.zb a z)
    refine ⟨.ref a, h1, Zo, Z, ρ, _, _, f1.v, q1, fun y H2 dy x2 g2 r2 ⟨k, kk, ey, ek, hl, q2⟩ => ?_, l.er f1⟩
    subst ey
    have f2 := f1.ex x2 g2
    have ek' : y = kV kk := Rq.key (Z := Z) r2 ek
    have h4' := x2 a _ h4 nb
    have h5' := f1.v.rqk x2 h5
    refine ⟨a, _, rfl, by rw [ek']; exact DPut.k h4' (by rw [h5.length]; exact hl), l.nx _ _ _ _ (f2.mut (d' := .py (.dict (putD ds kk p))) e1 h1 ⟨_, upd_same, ?_⟩) q2⟩
    exact (h5'.put (f1.v.rq x2 r1)).mono (fun c z => .inl z) fun c u e n => by
      rw [upd_ne (fun w => n (by rw [w]; exact h2))]
      exact e
end
end VL
set_option Elab.async false
set_option linter.all false
set_option maxRecDepth 100000
set_option maxHeartbeats 4000000
namespace VL
open PySem PySem.Spec PyProof.Rows L2 HT
/-- a constant of the module that is a text -/
theorem ve_gstr {X : Cx} {b : Bg} {W : WX} {pos : Pos} {x : Str} {i : Str} (hg : Gl X x) (hm : ∃ t, X.mg x = some (.str i t)) (hd : (x == ("__debug__" : Str)) = false := by decide) : VE X b W (.Name x pos) (vC (.py (.str i))) := by
  obtain ⟨t, h⟩ := hm
  exact ve_glob (v := .str i) hg h ⟨t, rfl⟩ (fun _ _ => .str i) hd
end VL
set_option Elab.async false
set_option linter.all false
set_option maxRecDepth 100000
set_option maxHeartbeats 4000000
namespace VL
open PySem PySem.Spec PyProof.Rows L2 HT
/-! ### typed data -/
def pN (n : Nat) : PyData := .int (n : Int)
def oN : Option Nat → PyData
  | none => .none
  | some n => .int (n : Int)
@[simp] def tI (gs : List Int) : PyData := .tuple (gs.map PyData.int)
@[simp] def tN (ns : List Nat) : PyData := .tuple (ns.map pN)
theorem map_inj {α β : Type} {f : α → β} (h : ∀ a b, f a = f b → a = b) : ∀ {xs ys : List α}, xs.map f = ys.map f ↔ xs = ys
  | [], [] => ⟨fun _ => rfl, fun _ => rfl⟩
  | [], _ :: _ => by simp
  | _ :: _, [] => by simp
  | x :: xs, y :: ys => by
    rw [List.map_cons, List.map_cons, List.cons.injEq, List.cons.injEq, map_inj h]
    exact ⟨fun ⟨a, b⟩ => ⟨h _ _ a, b⟩, fun ⟨a, b⟩ => ⟨by rw [a], b⟩⟩
theorem pN_inj (a b : Nat) (e : pN a = pN b) : a = b := by unfold pN at e; injection e with e; omega
@[simp] theorem pN_eq {a b : Nat} : pN a = pN b ↔ a = b := ⟨pN_inj a b, fun e => by rw [e]⟩
@[simp] theorem mapI_inj {xs ys : List Int} : xs.map PyData.int = ys.map PyData.int ↔ xs = ys := map_inj fun a b e => by injection e
@[simp] theorem mapN_inj {xs ys : List Nat} : xs.map pN = ys.map pN ↔ xs = ys := map_inj pN_inj
theorem tN_inj {xs ys : List Nat} : tN xs = tN ys ↔ xs = ys := ⟨fun e => by unfold tN at e; injection e with e; exact mapN_inj.mp e, fun e => by rw [e]⟩
@[simp] theorem oN_inj {a b : Option Nat} : oN a = oN b ↔ a = b := by
  cases a <;> cases b <;> simp [oN]
  omega
theorem atI_map {α β : Type} {f : α → β} {xs : List α} {k : Nat} {x : α} (h : xs[k]? = some x) : atI (xs.map f) (k : Int) = some (f x) := atI_nat (by rw [List.getElem?_map, h]; rfl)
theorem enumP_len (xs : List PyData) : (enumP xs).length = xs.length := by simp [enumP]
theorem enumP_getD {α : Type} {f : α → PyData} {xs : List α} {k : Nat} {d : PyData} (h : (enumP (xs.map f))[k]? = some d) : ∃ x, xs[k]? = some x ∧ d = .tuple [.int (k : Nat), f x] := by
  obtain ⟨x, h1, h2⟩ := enumP_get h
  rw [List.getElem?_map] at h1
  cases e : xs[k]? with
  | none => rw [e] at h1; cases h1
  | some y => rw [e] at h1; cases h1; exact ⟨y, rfl, h2⟩
theorem take_succ_get {α : Type} {xs : List α} {k : Nat} {x : α} (h : xs[k]? = some x) : xs.take (k + 1) = xs.take k ++ [x] := by
  rw [List.take_add_one, h]; rfl
end VL
namespace VL
open PySem PySem.Spec PyProof.Rows L2 HT
theorem putD_len (ds : List (PyData × PyData)) (k : Key) (x : PyData) : (putD ds k x).length ≤ ds.length + 1 := by
  unfold putD
  split
  · simp
  · simp
theorem getD_putD (ds : List (PyData × PyData)) (k j : Key) (x : PyData) : getD (putD ds k x) j = if j = k then some x else getD ds j := by
  unfold putD
  split
  · rename_i h
    have e : ∀ l : List (PyData × PyData), getD (l.map fun p => if keyOf p.1 = some k then (p.1, x) else p) j = if j = k then (if (l.any fun p => decide (keyOf p.1 = some k)) = true then some x else none) else getD l j := by
      intro l
      induction l with
      | nil => simp [getD]
      | cons p l ih =>
        unfold getD at ih ⊢
        rw [List.map_cons, List.any_cons, List.find?_cons]
        by_cases c : keyOf p.1 = some k
        · by_cases d : j = k
          · subst d; simp [c]
          · have d' : ¬ (some k = some j) := fun z => d (by cases z; rfl)
            have d'' : ¬ (k = j) := fun z => d z.symm
            simp [c, d, d', d''] at ih ⊢
            simpa [c, d, d', d''] using ih
        · by_cases d : keyOf p.1 = some j
          · have d' : ¬ j = k := fun z => c (by rw [d, z])
            simp [c, d, d']
          · have c' : decide (keyOf p.1 = some k) = false := decide_eq_false c
            have d' : decide (keyOf p.1 = some j) = false := decide_eq_false d
            rw [if_neg c, d', List.find?_cons, c', Bool.false_or]
            simp only [d']
            exact ih
    rw [e, h]; simp
  · rename_i h
    unfold getD
    rw [List.find?_append]
    by_cases d : j = k
    · subst d
      have hn : ds.find? (fun p => decide (keyOf p.1 = some j)) = none := by
        rw [List.find?_eq_none]
        intro p hp hc
        exact h (List.any_eq_true.mpr ⟨p, hp, hc⟩)
      simp [hn, -kD]
    · have d' : ¬ (k = j) := fun z => d z.symm
      simp [d, d', -kD]
@[simp] theorem getD_nil (k : Key) : getD [] k = none := rfl
end VL
set_option Elab.async false
set_option linter.all false
set_option maxRecDepth 100000
set_option maxHeartbeats 4000000
namespace VL
open PySem PySem.Spec PyProof.Rows L2
/-! ### data that is shown in few signs -/
structure Sw (w d : Nat) (p : PyData) : Prop where
  sh : p.showable = true
  ls : p.leavesShort 60 = true
  wt : p.weight ≤ w
  dp : p.depth ≤ d
instance (w d : Nat) (p : PyData) : Decidable (Sw w d p) := decidable_of_iff (p.showable = true ∧ p.leavesShort 60 = true ∧ p.weight ≤ w ∧ p.depth ≤ d) ⟨fun ⟨a, b, c, e⟩ => ⟨a, b, c, e⟩, fun ⟨a, b, c, e⟩ => ⟨a, b, c, e⟩⟩
end VL
set_option Elab.async false
set_option linter.all false
set_option maxRecDepth 100000
set_option maxHeartbeats 4000000
namespace VL
open PySem PySem.Spec PyProof.Rows L2 HT
/-! ### comprehensions and loops over encoded lists -/
section
variable {g : VTg} {tt : VB} {te : VT} {ρ : VEnv} {Q : D → Prop} {α : Type}
theorem lc_enc (enc : α → PyData) (f : α → Option PyData) : ∀ {L : List α} {acc : List PyData}, (∀ (i : Nat) (x : α), L[i]? = some x → ∀ k, k (f x) → lcStep g tt te (.py (enc x)) ρ k) → acc.length + L.length < 16777216 → Q (.py (.list (acc ++ L.filterMap f))) → lcGo g tt te Q ((L.map enc).map D.py) acc ρ
  | [], acc, _, _, q => by simpa using q
  | x :: xs, acc, h, hl, q => by
    refine lcGo_cons (h 0 x rfl _ ?_)
    have hr : ∀ (i : Nat) (y : α), xs[i]? = some y → ∀ k, k (f y) → lcStep g tt te (.py (enc y)) ρ k := fun i y hy => h (i + 1) y (by simpa using hy)
    rw [List.length_cons] at hl
    rw [List.filterMap_cons] at q
    cases e : f x with
    | none => rw [e] at q; exact lc_enc enc f hr (by omega) q
    | some p =>
      rw [e] at q
      refine ⟨by rw [szl]; omega, lc_enc enc f hr (by rw [List.length_append, List.length_singleton]; omega) ?_⟩
      rw [List.append_assoc]
      exact q
theorem filterMap_if (p : α → Bool) (e : α → PyData) : ∀ L : List α, L.filterMap (fun x => if p x = true then some (e x) else none) = (L.filter p).map e
  | [] => rfl
  | x :: xs => by
    rw [List.filterMap_cons, filterMap_if p e xs, List.filter_cons]
    cases p x <;> simp
theorem lc_encF (enc : α → PyData) (p : α → Bool) (e : α → PyData) {L : List α} (h : ∀ (i : Nat) (x : α), L[i]? = some x → ∀ k, (p x = true → k (some (e x))) → (p x = false → k none) → lcStep g tt te (.py (enc x)) ρ k)
    (hl : L.length < 16777216) (q : Q (.py (.list ((L.filter p).map e)))) : lcGo g tt te Q ((L.map enc).map D.py) [] ρ := by
  refine lc_enc enc (fun x => if p x = true then some (e x) else none) (fun i x hx k hk => h i x hx k (fun c => by simpa [c] using hk) (fun c => by simpa [c] using hk)) (by simpa using hl) ?_
  rw [filterMap_if, List.nil_append]
  exact q
theorem lc_encM (enc : α → PyData) (e : α → PyData) {L : List α} (h : ∀ (i : Nat) (x : α), L[i]? = some x → ∀ k, k (some (e x)) → lcStep g tt te (.py (enc x)) ρ k)
    (hl : L.length < 16777216) (q : Q (.py (.list (L.map e)))) : lcGo g tt te Q ((L.map enc).map D.py) [] ρ := by
  refine lc_enc enc (fun x => some (e x)) h (by simpa using hl) ?_
  rw [List.nil_append, List.filterMap_eq_map']
  exact q
end
section
variable {g : VTg} {tb : VS} {De : VEnds} {α : Type}
theorem for_enc (enc : α → PyData) (Iv : Nat → VEnv → Prop) {L : List α} {ρ : VEnv} (h0 : Iv 0 ρ) (h : ∀ i x ρ, L[i]? = some x → Iv i ρ → ∀ nx ct : VEnv → Prop, (∀ ρ', Iv (i + 1) ρ' → nx ρ' ∧ ct ρ') → g (.py (enc x)) ρ fun ρ1 => tb ρ1 ⟨nx, De.rt, De.nx, ct, De.ex, De.ro⟩) (hd : ∀ ρ, Iv L.length ρ → De.nx ρ) :
    forGo g tb ((L.map enc).map D.py) ρ De := by
  refine for_inv Iv (fun i x ρ hx iv nx ct hn => ?_) (fun ρ iv => hd ρ (by simpa using iv)) h0
  rw [List.getElem?_map] at hx
  cases e : L[i]? with
  | none => rw [e] at hx; cases hx
  | some y => rw [e] at hx; cases hx; exact h i y ρ e iv nx ct hn
end
def encR (lo : Int) (k : Nat) : PyData := .int (lo + (k : Nat))
theorem rangeP_eq (lo : Int) (n : Nat) : rangeP lo n = (List.range n).map (encR lo) := rfl
@[simp] theorem encR0 (k : Nat) : encR 0 k = .int (k : Int) := by unfold encR; rw [Int.zero_add]
theorem encR_eq (lo : Int) (k : Nat) : encR lo k = .int (lo + (k : Nat)) := rfl
def encE {α : Type} (enc : α → PyData) (p : α × Nat) : PyData := .tuple [.int (p.2 : Nat), enc p.1]
@[simp] theorem encE_eq {α : Type} (enc : α → PyData) (x : α) (n : Nat) : encE enc (x, n) = .tuple [.int (n : Nat), enc x] := rfl
theorem enumP_enc {α : Type} (enc : α → PyData) (L : List α) : enumP (L.map enc) = L.zipIdx.map (encE enc) := by
  unfold enumP encE
  rw [List.zipIdx_map, List.map_map]
  rfl
theorem range_get {n i x : Nat} (h : (List.range n)[i]? = some x) : x = i ∧ i < n := by
  have hi : i < n := by have := (List.getElem?_eq_some_iff.mp h).1; simpa using this
  rw [List.getElem?_range hi] at h
  cases h
  exact ⟨rfl, hi⟩
end VL
set_option Elab.async false
set_option linter.all false
set_option maxRecDepth 100000
set_option maxHeartbeats 4000000
namespace VL
open PySem PySem.Spec PyProof.Rows L2 HT
/-! ### methods of values -/
def TyIs (X : Cx) (T : String) (x : V) (H : Hp) : Prop := ∀ (pins : List (Addr × Obj)) (σ : L2.St) (s : Shared) (v : Value), Inv X pins σ H s → RelV x v → s.TypeIs v T ∧ ∀ a, v = .ref a → ∃ ob, s.heap.get? a = some ob ∧ ob.dict = none
def AltOk (X : Cx) (name : Str) (x : V) (H : Hp) (r : V → List V → Hp → VK → Prop) : Prop := ∃ T id, PlainAttrs T ∧ PySem.Slot T name id ∧ typeOf (.builtin id) = pure (.type "method_descriptor") ∧ MtR X id r ∧ TyIs X T x H
def tBMx (X : Cx) (name : Str) (to : TE) (t : TA) : TE := fun σ H Q => to σ H fun x H1 => ∃ r, AltOk X name x H1 r ∧ t σ H1 fun xs H2 => r x xs H2 Q
theorem pe_bmx {X : Cx} {o e : Expr} {es : List Expr} {to : TE} {t : TA} {name : Str} {apos cpos : Pos} (ho : PE X o to) (ha : PA X (e :: es) t)
    (hbase : attributeBase o name X.env (eval o X.env) = eval o X.env := by rfl)
    (hfew : ((backTo cpos (starEach (e :: es) X.env)).all (fun x => !x.1) && (backToKw cpos (keywordEach [] X.env)).all (fun x => x.1.isSome)
      && decide ((e :: es).length + ([] : List Keyword).length + (if ([] : List Keyword).isEmpty then 0 else 1) < 30)) = true := by rfl)
    (hline : (apos.endLine == cpos.line) = true := by rfl) (hs : starEach (e :: es) X.env = (false, eval e X.env) :: starEach es X.env := by rfl) (hplain : (backTo cpos (starEach es X.env)).any (·.1) = false := by rfl) :
    PE X (.Call (.Attribute o name apos) (e :: es) [] cpos) (tBMx X name to t) := by
  refine ⟨fun pins s σ H Q I h => ?_⟩
  refine wpAny_Call_method_late hbase hfew hline rfl (thn (ho.run pins s σ H _ I h) fun v s1 ⟨x, H1, I1, r1, r, ⟨T, id, pa, slot, hty, hm, ty⟩, q1⟩ => ?_)
  obtain ⟨h1, h2⟩ := ty pins σ s1 v I1 r1
  refine ⟨T, id, pa, slot, hty, h1, h2, ?_⟩
  have hA := ha.run cpos pins s1 σ H1 _ I1 q1
  rw [hs] at hA ⊢
  refine Calls.callWith_builtin (by show (false || (backTo cpos (starEach es X.env)).any (·.1)) = false; rw [hplain] <;> rfl) (Calls.evalArgs_plain ?_)
  exact thn hA fun us s2 ⟨vs, H2, I2, r2, q2⟩ => hm pins s2 σ H2 x vs v us Q I2 r1 r2 q2
section
variable {X : Cx} {H : Hp}
theorem ty_str (z : Str) : TyIs X "str" (.str z) H := fun pins σ s v I r => by
  obtain ⟨t, rfl⟩ := r
  exact ⟨typeIs_str s z t, fun _ e => nomatch e⟩
theorem ty_lst {a : Addr} {xs : List V} (e : H a = some (.lst xs)) : TyIs X "list" (.ref a) H := fun pins σ s v I r => by
  cases r
  obtain ⟨its, _, pl, _⟩ := I.list (SqL.of e)
  refine ⟨pl.isList.typeIs, fun a e => ?_⟩
  cases e
  obtain ⟨o, n, e, c, hd, _⟩ := pl
  exact ⟨o, e, hd⟩
theorem ty_tup {a : Addr} {o : Obj} {xs : List V} (e : H a = some (HO.th o xs)) (hd : o.dict = none) : TyIs X "tuple" (.ref a) H := fun pins σ s v I r => by
  cases r
  obtain ⟨h1, _, its, _, ho⟩ := I.hok a _ e
  obtain ⟨o', e', hc, _⟩ := ho
  refine ⟨⟨o', e', hc⟩, fun b eb => ?_⟩
  cases eb
  exact ⟨o, h1, hd⟩
end
/-- a method over values: k says for which receivers it is there -/
def MetX (X : Cx) (b : Bg) (R : (Addr → Prop) → Hp → Hp → V → D → Prop) (name : Str) (k : D → Prop) (g : D → List D → (D → Prop) → Prop) : Prop :=
  ∀ (Z : Addr → Prop) (H : Hp) (x : V) (d : D), Gd b Z H → Rb b Z H x d → k d → ∃ r, AltOk X name x H r ∧ ∀ (H' : Hp) (xs : List V) (ds : List D) (Q : VK) (Qd : D → Prop), Ex b H H' → Gd b Z H' → Rb b Z H' x d → Rbs b Z H' xs ds → g d ds Qd →
    (∀ v H2 e, Ex b H' H2 → b.G H2 → R Z H' H2 v e → Qd e → Q v H2) → r x xs H' Q
@[simp] def vMth (k : D → Prop) (g : D → List D → (D → Prop) → Prop) (to : VT) (ta : VA) : VT := fun ρ Q E => to ρ (fun d => k d ∧ ta ρ (fun ds => g d ds Q) E) E
section
variable {X : Cx} {b : Bg} {W : WX} {o e : Expr} {es : List Expr} {to : VT} {ta : VA} {name : Str} {apos cpos : Pos} {k : D → Prop} {g : D → List D → (D → Prop) → Prop}
theorem coreM {R : (Addr → Prop) → Hp → Hp → V → D → Prop} (hR : ∀ Z H H1 H2 v d, b.G H1 → Ex b H H1 → R Z H1 H2 v d → R Z H H2 v d) (hd : MetX X b R name k g) :
    ∀ σ H Q, LE b W R (vMth k g to ta) σ H Q → tBMx X name (LE b W (fun Z _ H v d => Rb b Z H v d) to) (LAX b W ta) σ H Q :=
  fun σ H Q ⟨Zo, Z, ρ, Qd, Ed, v, q, l, m⟩ => ⟨Zo, Z, ρ, _, Ed, v, q, fun x H1 d x1 g1 r1 ⟨kd, q1⟩ => by
    have v1 := v.ex x1 g1
    obtain ⟨r, al, rr⟩ := hd Z H1 x d v1.gd r1 kd
    exact ⟨r, al, Zo, Z, ρ, _, Ed, v1, q1, fun xs H2 ds x2 g2 r2 q2 => rr H2 xs ds Q Qd x2 (v1.ex x2 g2).gd (r1.ex (v1.keep x2) x2) r2 q2 fun u H3 d3 x3 g3 r3 q3 => l u H3 d3 ((x1.trans x2).trans x3) g3 (hR _ _ _ _ _ _ g2 (x1.trans x2) r3) q3,
      fun c z H2 er x2 g2 r2 q2 => m c z H2 er (x1.trans x2) g2 r2 q2⟩, m⟩
theorem ve_mth (hd : MetX X b (RE b) name k g) (ho : VX X b W o to) (ha : VXs X b W (e :: es) ta)
    (hbase : attributeBase o name X.env (eval o X.env) = eval o X.env := by rfl)
    (hfew : ((backTo cpos (starEach (e :: es) X.env)).all (fun x => !x.1) && (backToKw cpos (keywordEach [] X.env)).all (fun x => x.1.isSome)
      && decide ((e :: es).length + ([] : List Keyword).length + (if ([] : List Keyword).isEmpty then 0 else 1) < 30)) = true := by rfl)
    (hline : (apos.endLine == cpos.line) = true := by rfl) (hs : starEach (e :: es) X.env = (false, eval e X.env) :: starEach es X.env := by rfl) (hplain : (backTo cpos (starEach es X.env)).any (·.1) = false := by rfl) :
    VE X b W (.Call (.Attribute o name apos) (e :: es) [] cpos) (vMth k g to ta) := pe_mono (pe_bmx ho ha hbase hfew hline hs hplain) (coreM hRE hd)
end
/-! ### texts -/
@[simp] def isS : D → Prop
  | .py (.str _) => True
  | _ => False
theorem isS_ex : ∀ {d : D}, isS d → ∃ z, d = .py (.str z)
  | .py (.str z), _ => ⟨z, rfl⟩
/-- how often c stands in l: of one sign -/
@[simp] def gTCount : D → List D → (D → Prop) → Prop
  | .py (.str a), [.py (.str b)], Q => Q (.py (.int (Txt.count a b)))
  | _, _, _ => False
theorem mx_count {X : Cx} {b : Bg} : MetX X b (RE b) "count" isS gTCount := fun Z H x d gd rx kd => by
  obtain ⟨z, rfl⟩ := isS_ex kd
  obtain rfl := rx.str
  refine ⟨_, ⟨"str", _, PySem.F.plainAttrs_str, PySem.F.slot_str_count, PySem.F.type_str_count, mt_count, ty_str z⟩, fun H' xs ds Q Qd _ gd' _ rs h k => ?_⟩
  match ds, h, rs with
  | [.py (.str c)], h, .cons r .nil =>
    obtain rfl := r.str
    exact ⟨z, c, rfl, rfl, k _ H' (.py (.int _)) Ex.refl gd'.g (.int _) h⟩
@[simp] def gTJoin : D → List D → (D → Prop) → Prop
  | .py (.str a), [.py (.list xs)], Q => ∃ ys, allS xs = some ys ∧ (ys.map (·.length)).sum + ys.length * a.length ≤ 16777216 ∧ Q (.py (.str (Txt.join a ys)))
  | _, _, _ => False
@[simp] def gTUpper : D → List D → (D → Prop) → Prop
  | .py (.str a), [], Q => a.length ≤ 5592405 ∧ Q (.py (.str (Txt.upper a)))
  | _, _, _ => False
@[simp] def gTSplit : D → List D → (D → Prop) → Prop
  | .py (.str a), [.py (.str b)], Q => (b.length == 0) = false ∧ a.length + 2 ≤ 16777216 ∧ Q (.py (.list ((Txt.split a b).map PyData.str)))
  | _, _, _ => False
end VL
set_option Elab.async false
set_option linter.all false
set_option maxRecDepth 100000
set_option maxHeartbeats 4000000
namespace VL
open PySem PySem.Spec PyProof.Rows L2 HT
/-! ### index by plain data -/
/-- the first place of an equal one -/
def ixOf : List PyData → PyData → Option Nat
  | [], _ => none
  | z :: zs, d => if z.eqv d = true then some 0 else (ixOf zs d).map (· + 1)
theorem ixOf_some : ∀ {ds : List PyData} {d : PyData} {j : Nat}, ixOf ds d = some j → ∃ z, ds[j]? = some z ∧ z.eqv d = true ∧ ∀ (m : Nat) (z' : PyData), m < j → ds[m]? = some z' → z'.eqv d = false
  | [], _, _, h => by cases h
  | z :: zs, d, j, h => by
    unfold ixOf at h
    split at h
    · rename_i c
      cases h
      exact ⟨z, rfl, c, fun m z' hm => by omega⟩
    · rename_i c
      cases e : ixOf zs d with
      | none => rw [e] at h; cases h
      | some i =>
        rw [e] at h
        cases h
        obtain ⟨y, h1, h2, h3⟩ := ixOf_some e
        refine ⟨y, by simpa using h1, h2, fun m z' hm hz => ?_⟩
        have hm' : m < i + 1 := hm
        cases m with
        | zero => simp at hz; subst hz; simpa using c
        | succ m => exact h3 m z' (by omega) (by simpa using hz)
section
variable {X : Cx}
def rIxP (tup : Bool) : V → List V → Hp → VK → Prop := fun x xs H Q => ∃ (a : Addr) (y : V) (d : PyData) (ds : List PyData) (j : Nat), x = .ref a ∧ xs = [y] ∧ Rq nz H (.ref a) (if tup = true then .tuple ds else .list ds) ∧ Rq nz H y d ∧ PyData.plainAll ds = true ∧ d.plain = true ∧
  (d.depth ≤ 60 ∨ PyData.depthAll ds ≤ 60) ∧ ixOf ds d = some j ∧ Q (.int (j : Nat)) H
theorem ix_at {s : Shared} {its : List Value} {ds : List PyData} {as : List Addr} {d : PyData} {j : Nat} (h4 : ReadsAll s.heap its ds as) (hp : PyData.plainAll ds = true) (hj : ixOf ds d = some j) :
    ∃ hjl : j < its.toArray.size, PyData.eqv (SeqAt.readOf s.heap its.toArray[j]) d = true ∧ ∀ m (hm : m < its.toArray.size), m < j → PyData.eqv (SeqAt.readOf s.heap its.toArray[m]) d = false := by
  obtain ⟨z, hz, h1, h2⟩ := ixOf_some hj
  have hn : its.length = ds.length := SeqAt.ReadsAll.length ds its as h4
  have hmap : its.map (SeqAt.readOf s.heap) = ds := SeqAt.readsAll_map_plain ds its as hp h4
  have at_ : ∀ (m : Nat) (hm : m < its.toArray.size) (z' : PyData), ds[m]? = some z' → SeqAt.readOf s.heap its.toArray[m] = z' := by
    intro m hm z' hz'
    have hml : m < its.length := by simpa using hm
    rw [← hmap, List.getElem?_map, List.getElem?_eq_getElem hml] at hz'
    have e1 : SeqAt.readOf s.heap its[m] = z' := Option.some.inj (show some (SeqAt.readOf s.heap its[m]) = some z' from hz')
    simpa using e1
  have hjd : j < ds.length := (List.getElem?_eq_some_iff.mp hz).1
  have hjl : j < its.toArray.size := by simp; omega
  refine ⟨hjl, by rw [at_ j hjl z hz]; exact h1, fun m hm hmj => ?_⟩
  have hz' : ds[m]? = some ds[m] := List.getElem?_eq_getElem (by omega)
  rw [at_ m hm _ hz']
  exact h2 m _ hmj hz'
theorem mt_ixL (hu : X.A.units + 65 < cLine) : MtR X "list.index" (rIxP false) := by
  intro pins s σ H x xs v us Q I rx rxs ⟨a, y, d, ds, j, ex, exs, hl, hy, pl, pd, hd, hj, q⟩
  subst ex exs
  cases rx
  obtain ⟨uy, rfl, ry⟩ := vals1 rxs
  obtain ⟨bs, r1, _⟩ := hy.reads I _ ry
  have hroom : X.A.units + 1 + min (PyData.depthAll ds) d.depth < cLine := by omega
  have hl : Rq nz H (.ref a) (.list ds) := hl
  cases hl with
  | lst e n ha =>
    obtain ⟨its, rv, ⟨⟨cls, dd, data, sls⟩, n, ho, hc, hdn, hdt⟩, hlen⟩ := I.list (SqL.of e)
    simp only at hc hdt
    subst hc hdt
    obtain ⟨as, h4, _⟩ := ha.reads I its rv
    obtain ⟨hjl, h1, h2⟩ := ix_at h4 pl hj
    have hsl := sizeLine_eq
    have hvl := rv.length
    have hjz : j < its.length := by simpa using hjl
    refine call_meets PySem.F.slot_list_index ⟨_, ho, rfl⟩ PySem.F.entry_list_index (PySem.F.args_list_index_2 _ _)
      (SeqAt.list_indexAt a its.toArray n dd sls uy (fun u => PyData.eqv (SeqAt.readOf s.heap u) d) j hjl (by omega) h1 h2) ⟨ho, SeqAt.items_plain (vs := its.toArray) (show ReadsAll s.heap its.toArray.toList ds as from h4) r1 pl pd hroom, ?_⟩
    exact ⟨.int (j : Nat), H, I.tok _, ⟨_, rfl⟩, q⟩
theorem mt_ixT (hu : X.A.units + 65 < cLine) : MtR X "tuple.index" (rIxP true) := by
  intro pins s σ H x xs v us Q I rx rxs ⟨a, y, d, ds, j, ex, exs, hl, hy, pl, pd, hd, hj, q⟩
  subst ex exs
  cases rx
  obtain ⟨uy, rfl, ry⟩ := vals1 rxs
  obtain ⟨bs, r1, _⟩ := hy.reads I _ ry
  have hroom : X.A.units + 1 + min (PyData.depthAll ds) d.depth < cLine := by omega
  have hl : Rq nz H (.ref a) (.tuple ds) := hl
  cases hl with
  | tup e _ n ha =>
    obtain ⟨its, rv, ⟨⟨cls, dd, data, sls⟩, ho, hc, n, hdt⟩, hlen⟩ := I.tuple (SqT.th e)
    simp only at hc hdt
    subst hc hdt
    obtain ⟨as, h4, _⟩ := ha.reads I its rv
    obtain ⟨hjl, h1, h2⟩ := ix_at h4 pl hj
    refine call_meets PySem.F.slot_tuple_index ⟨_, ho, rfl⟩ PySem.F.entry_tuple_index (PySem.F.args_tuple_index_2 _ _)
      (TI.tuple_indexAt a its.toArray n dd sls uy (fun u => PyData.eqv (SeqAt.readOf s.heap u) d) j hjl h1 h2) ⟨ho, SeqAt.items_plain (vs := its.toArray) (show ReadsAll s.heap its.toArray.toList ds as from h4) r1 pl pd hroom, ?_⟩
    exact ⟨.int (j : Nat), H, I.tok _, ⟨_, rfl⟩, q⟩
end
@[simp] def isSq : D → Prop
  | .py (.list _) => True
  | .py (.tuple _) => True
  | _ => False
@[simp] def gIndex : D → List D → (D → Prop) → Prop
  | .py (.list xs), [.py d], Q => PyData.plainAll xs = true ∧ d.plain = true ∧ (d.depth ≤ 60 ∨ PyData.depthAll xs ≤ 60) ∧ ∃ j, ixOf xs d = some j ∧ Q (.py (.int (j : Nat)))
  | .py (.tuple xs), [.py d], Q => PyData.plainAll xs = true ∧ d.plain = true ∧ (d.depth ≤ 60 ∨ PyData.depthAll xs ≤ 60) ∧ ∃ j, ixOf xs d = some j ∧ Q (.py (.int (j : Nat)))
  | _, _, _ => False
theorem mx_index {X : Cx} {b : Bg} (hu : X.A.units + 65 < cLine) : MetX X b (RE b) "index" isSq gIndex := fun Z H x d gd rx kd => by
  match d, kd, rx with
  | .py (.list ps), _, rx =>
    obtain ⟨a, us, rfl, ha, _⟩ := rx.list
    refine ⟨_, ⟨"list", _, PySem.F.plainAttrs_list, PySem.F.slot_list_index, PySem.F.type_list_index, mt_ixL hu, ty_lst ha⟩, fun H' xs ds Q Qd _ gd' rx' rs h k => ?_⟩
    match ds, h, rs with
    | [.py c], ⟨h1, h2, h3, j, h4, h⟩, .cons r .nil =>
      exact ⟨a, _, c, ps, j, rfl, rfl, rx'.q, r.q, h1, h2, h3, h4, k _ H' (.py (.int _)) Ex.refl gd'.g (.int _) h⟩
  | .py (.tuple ps), _, rx =>
    obtain ⟨a, o, us, rfl, ha, hd, _, _⟩ := rx.tuple
    refine ⟨_, ⟨"tuple", _, PySem.F.plainAttrs_tuple, PySem.F.slot_tuple_index, PySem.F.type_tuple_index, mt_ixT hu, ty_tup ha hd⟩, fun H' xs ds Q Qd _ gd' rx' rs h k => ?_⟩
    match ds, h, rs with
    | [.py c], ⟨h1, h2, h3, j, h4, h⟩, .cons r .nil =>
      exact ⟨a, _, c, ps, j, rfl, rfl, rx'.q, r.q, h1, h2, h3, h4, k _ H' (.py (.int _)) Ex.refl gd'.g (.int _) h⟩
/-- how often: of a text, of a list of ints -/
@[simp] def isCt : D → Prop
  | .py (.str _) => True
  | .py (.list _) => True
  | _ => False
@[simp] def gCount : D → List D → (D → Prop) → Prop
  | .py (.str a), [.py (.str b)], Q => Q (.py (.int (Txt.count a b)))
  | .py (.list xs), [.py (.int k)], Q => ∃ ns, allI xs = some ns ∧ Q (.py (.int (ns.count k : Nat)))
  | _, _, _ => False
theorem mx_cnt {X : Cx} {b : Bg} : MetX X b (RE b) "count" isCt gCount := fun Z H x d gd rx kd => by
  match d, kd, rx with
  | .py (.str z), _, rx =>
    obtain ⟨r, al, h⟩ := mx_count Z H x (.py (.str z)) gd rx trivial
    exact ⟨r, al, fun H' xs ds Q Qd x1 gd' rx' rs g k => h H' xs ds Q Qd x1 gd' rx' rs (by
      match ds, g with
      | [.py (.str c)], g => exact g) k⟩
  | .py (.list ps), _, rx =>
    obtain ⟨a, us, rfl, ha, _⟩ := rx.list
    refine ⟨_, ⟨"list", _, PySem.F.plainAttrs_list, PySem.F.slot_list_count, PySem.F.type_list_count, mt_lcount, ty_lst ha⟩, fun H' xs ds Q Qd _ gd' rx' rs h k => ?_⟩
    match ds, h, rs with
    | [.py (.int c)], ⟨ns, e, h⟩, .cons r .nil =>
      obtain rfl := r.int
      obtain ⟨a', us', ea, ha', qa'⟩ := rx'.list
      cases ea
      rw [allI_of e] at qa'
      have eu := qa'.ints
      subst eu
      exact ⟨a, ns, c, rfl, rfl, SqL.of ha', k _ H' (.py (.int _)) Ex.refl gd'.g (.int _) h⟩
end VL
set_option Elab.async false
set_option linter.all false
set_option maxRecDepth 100000
set_option maxHeartbeats 4000000
namespace VL
open PySem PySem.Spec PyProof.Rows L2 HT
/-! ### text * int, text[::-1] -/
def repS (z : Str) (k : Int) : Str := mkS (List.replicate k.toNat (sl z)).flatten
theorem mkS_sl (z : Str) : mkS (sl z) = z := by cases z; simp [mkS, sl]
@[simp] theorem sl_mkS (l : List Nat) : sl (mkS l) = l := by simp [mkS, sl]
@[simp] theorem len_mkS (l : List Nat) : (mkS l).length = l.length := by simp [mkS, Str.length]
theorem slen (z : Str) : (sl z).length = z.length := by simp [sl, Str.length]
def rRepS : R2 := fun x y H Q => ∃ z k, x = .str z ∧ y = .int k ∧ -(2 ^ 63) ≤ k ∧ k < 2 ^ 63 ∧ z.length * k.toNat ≤ 16777216 ∧ Q (.str (repS z k)) H
theorem foldl_app (n : Nat) (a b : Array Nat) : (List.replicate n a).foldl (· ++ ·) b = (b.toList ++ (List.replicate n a.toList).flatten).toArray := by
  induction n generalizing b with
  | zero => simp
  | succ n ih => rw [List.replicate_succ, List.foldl_cons, ih, List.replicate_succ, List.flatten_cons]; simp
theorem op_repS {X : Cx} : OpR X (binaryOp .Mult) rRepS := by
  intro pins s σ H x y v u Q I rx ry ⟨z, k, ex, ey, h1, h2, h3, q⟩
  subst ex ey
  obtain ⟨t, rfl⟩ := rx
  obtain ⟨t2, rfl⟩ := ry
  refine P.mul_str (by rw [decide_eq_false (by omega), decide_eq_false (by omega)]; rfl) (fun c c2 => ?_) (fun c c2 => ?_) ?_
  · intro hgt
    have kp : 0 < k := by omega
    have hz : (z.length : Int) * k ≤ 16777216 := by
      have e : ((z.length * k.toNat : Nat) : Int) ≤ 16777216 := by omega
      have e2 : ((k.toNat : Nat) : Int) = k := by omega
      rw [Int.natCast_mul, e2] at e
      exact e
    have h5 : ((2 ^ 63 - 1 : Int) / k + 1) * k > 2 ^ 63 - 1 := by
      have := Int.lt_ediv_add_one_mul_self (2 ^ 63 - 1) kp
      exact this
    have h6 : ((2 ^ 63 - 1 : Int) / k + 1) * k ≤ (z.length : Int) * k := Int.mul_le_mul_of_nonneg_right (by omega) (by omega)
    omega
  · unfold Builtin.Str.tooLong
    rw [sizeLine_eq]
    exact decide_eq_false (by omega)
  · by_cases c : k < 1
    · rw [if_pos c]
      refine ⟨by show 0 ≤ sizeLine; omega, .str Str.empty, H, I.tok _, ⟨_, rfl⟩, ?_⟩
      have e : repS z k = Str.empty := by
        unfold repS
        have : k.toNat = 0 := by omega
        rw [this]
        rfl
      rw [← e]; exact q
    · rw [if_neg c]
      split
      · rename_i c2
        have e : repS z k = z := by
          unfold repS
          rcases Bool.or_eq_true_iff.mp c2 with c3 | c3
          · have : k = 1 := eq_of_beq c3
            subst this
            show mkS (List.replicate 1 (sl z)).flatten = z
            simp [mkS_sl]
          · have hz : (sl z).length = 0 := by rw [slen]; exact eq_of_beq c3
            have hz' : sl z = [] := List.length_eq_zero_iff.mp hz
            rw [hz']
            have : (List.replicate k.toNat ([] : List Nat)).flatten = [] := by simp
            rw [this, ← hz', mkS_sl]
        refine ⟨.str z, H, I, ⟨_, rfl⟩, ?_⟩
        rw [← e]; exact q
      · refine ⟨?_, .str (repS z k), H, ?_⟩
        · show Array.size _ ≤ sizeLine
          rw [foldl_app, List.size_toArray]
          simp
          rw [Nat.mul_comm]
          have : z.cps.size = z.length := rfl
          rw [this]
          exact h3
        · have e : (⟨(List.replicate k.toNat z.cps).foldl (· ++ ·) #[]⟩ : Str) = repS z k := by
            rw [foldl_app]; rfl
          rw [e]
          exact ⟨I.tok _, ⟨_, rfl⟩, q⟩
section
variable {X : Cx} {b : Bg} {W : WX} {e e1 e2 st : Expr} {t t1 t2 : VT} {tl : VO} {p2 pos : Pos}
@[simp] def gBkA : D → (D → Prop) → Prop
  | .py (.list xs), Q => Q (.py (.list xs.reverse))
  | .py (.tuple xs), Q => Q (.py (.tuple xs.reverse))
  | .py (.str z), Q => z.length ≤ 16777216 ∧ Q (.py (.str (mkS (sl z).reverse)))
  | _, _ => False
@[simp] def vBkA (t : VT) (tl : VO) : VT := fun ρ Q E => t ρ (fun x => tl ρ (fun k => k = some (-1) ∧ gBkA x Q) E) E
/-- products, of a text too -/
@[simp] def gMulA : D → D → (D → Prop) → Prop
  | .py (.int i), .py (.int j), Q => CMul i j ∧ Q (.py (.int (i * j)))
  | .py (.list xs), .py (.int k), Q => (-(2 ^ 63) ≤ k ∧ k < 2 ^ 63 ∧ xs.length * k.toNat ≤ sizeLine) ∧ Q (.py (.list (List.replicate k.toNat xs).flatten))
  | .py (.tuple xs), .py (.int k), Q => (xs ≠ [] ∧ 2 ≤ k ∧ k ≤ 1000 ∧ xs.length ≤ 1000) ∧ Q (.py (.tuple (List.replicate k.toNat xs).flatten))
  | .py (.str z), .py (.int k), Q => (-(2 ^ 63) ≤ k ∧ k < 2 ^ 63 ∧ z.length * k.toNat ≤ 16777216) ∧ Q (.py (.str (repS z k)))
  | _, _, _ => False
theorem rd_mulA : OpD b (RE b) (fun x y H Q => (fun x y H Q => rI CMul (fun i j => .int (i * j)) x y H Q ∨ (fun x y H Q => rRep x y H Q ∨ rRepF X.K x y H Q) x y H Q) x y H Q ∨ rRepS x y H Q) gMulA := by
  intro Z H x y dx dy Q Qd gd rx ry h k
  match dx, dy, h, rx, ry with
  | .py (.int i), .py (.int j), h, rx, ry => exact .inl (rd_mul Z H x y (.py (.int i)) (.py (.int j)) Q Qd gd rx ry h k)
  | .py (.list xs), .py (.int n), h, rx, ry => exact .inl (rd_mul Z H x y (.py (.list xs)) (.py (.int n)) Q Qd gd rx ry h k)
  | .py (.tuple xs), .py (.int n), h, rx, ry => exact .inl (rd_mul Z H x y (.py (.tuple xs)) (.py (.int n)) Q Qd gd rx ry h k)
  | .py (.str z), .py (.int n), ⟨⟨h1, h2, h3⟩, h⟩, rx, ry =>
    obtain rfl := rx.str
    obtain rfl := ry.int
    exact .inr ⟨z, n, rfl, rfl, h1, h2, h3, k _ H (.py (.str _)) Ex.refl gd.g (.str _) h⟩
theorem ve_mulA (h1 : VX X b W e1 t1) (h2 : VX X b W e2 t2) : VE X b W (.BinOp e1 .Mult e2 pos) (vBin gMulA t1 t2) := ve_op (OpR.or (OpR.or op_mul (OpR.or op_rep op_repF)) op_repS) rd_mulA h1 h2
end
/-! ### name op= value -/
@[simp] def gAugAdd : D → D → (D → Prop) → Prop
  | .py (.int i), .py (.int j), Q => Q (.py (.int (i + j)))
  | .py (.str x), .py (.str y), Q => x.length + y.length ≤ 16777216 ∧ Q (.py (.str (x ++ y)))
  | _, _, _ => False
@[simp] def gAugSub : D → D → (D → Prop) → Prop
  | .py (.int i), .py (.int j), Q => Q (.py (.int (i - j)))
  | _, _, _ => False
@[simp] def sAugA (i : Nat) (g : D → D → (D → Prop) → Prop) (t : VT) : VS := fun ρ De => ∃ d0, ρ[i]? = some (.shr d0) ∧ t ρ (fun d => g d0 d fun z => De.nx (ρ.set i (.shr z))) (De.ex ρ)
section
variable {X : Cx} {b : Bg} {W : WX} {e : Expr} {t : VT} {pos pos' : Pos} {i : Nat} {x : Str}
theorem ip_addA : PIp X .Add (fun x y H Q => ipI (fun i j => i + j) x y H Q ∨ rAddS x y H Q) := fun pins s σ H x y v u Q I r1 r2 h => h.elim (ip_add pins s σ H x y v u Q I r1 r2) (in_addS pins s σ H x y v u Q I r1 r2)
theorem vs_augG {op : Operator} {ti : TIp} {g : D → D → (D → Prop) → Prop} (hp : PIp X op ti) (hg : ∀ (Z : Addr → Prop) (H : Hp) (u v : V) (d0 d : D) (Q : VK) (Qd : D → Prop), Rp b Z H u d0 → Rp b Z H v d → g d0 d Qd → (∀ w z, Rp b Z H w z → Qd z → Q w H) → ti u v H Q)
    (hN : X.N.Nodup) (hi : X.N[i]? = some x) (hx : Loc X.env.scope x) (he : VE X b W e t) (hf : X.fn x = true ∨ X.env.scope.names.lookup x = some .local := by first | exact .inl rfl | exact .inr rfl | assumption) :
    VSt X b W (.AugAssign (.Name x pos') op e pos) (sAugA i g t) :=
  ps_mono (ps_aug hN hi hx he hp hf) fun Dn σ H ⟨H0, M, Zo, Z, ρ, De, f, ⟨d0, e0, q⟩, l⟩ => by
    obtain ⟨u, hu, ru⟩ := f.v.shr i d0 e0
    refine ⟨u, hu, Zo, Z, ρ, _, _, f.v, q, fun v H1 d x1 g1 r1 q1 => ?_, l.er f⟩
    have f1 := f.ex x1 g1
    exact hg Z H1 u v d0 d _ _ (f.v.rp x1 ru) r1 q1 fun w z rz qz => l.nx _ _ H1 _ (f1.set (List.getElem?_eq_some_iff.mp e0).1 rz) qz
theorem vs_augAdd (hN : X.N.Nodup) (hi : X.N[i]? = some x) (hx : Loc X.env.scope x) (he : VE X b W e t) (hf : X.fn x = true ∨ X.env.scope.names.lookup x = some .local := by first | exact .inl rfl | exact .inr rfl | assumption) :
    VSt X b W (.AugAssign (.Name x pos') .Add e pos) (sAugA i gAugAdd t) :=
  vs_augG ip_addA (fun Z H u v d0 d Q Qd r1 r2 g k => by
    match d0, d, g, r1, r2 with
    | .py (.int i), .py (.int j), g, r1, r2 =>
      obtain rfl := Rb.int (b := b) (Z := Z) (H := H) (.inl r1)
      obtain rfl := Rb.int (b := b) (Z := Z) (H := H) (.inl r2)
      exact .inl ⟨i, j, rfl, rfl, k _ (.py (.int _)) (Rq.int _) g⟩
    | .py (.str i), .py (.str j), ⟨hl, g⟩, r1, r2 =>
      obtain rfl := Rb.str (b := b) (Z := Z) (H := H) (.inl r1)
      obtain rfl := Rb.str (b := b) (Z := Z) (H := H) (.inl r2)
      exact .inr ⟨i, j, rfl, rfl, by rw [sizeLine_eq]; exact hl, k _ (.py (.str _)) (Rq.str _) g⟩) hN hi hx he hf
/-- xs[i] = v, an owned list -/
def setAt (xs : List PyData) (k : Int) (p : PyData) : Option (List PyData) := (ixN xs.length k).map fun j => xs.set j p
@[simp] def sStoL (i : Nat) (ty tv : VT) : VS := fun ρ De => ∃ xs, ρ[i]? = some (.own (.py (.list xs))) ∧ tv ρ (fun v => ∃ p, v = .py p ∧ ty ρ (fun y => ∃ k, y = .py (.int k) ∧ ∃ ys, setAt xs k p = some ys ∧ De.nx (ρ.set i (.own (.py (.list ys))))) (De.ex ρ)) (De.ex ρ)
theorem vs_stoL {o ei : Expr} {ty tv : VT} (ho : PE X o (tVar i)) (hi : VE X b W ei ty) (hv : VE X b W e tv)
    (ha : ∀ v, assign (.Subscript o ei pos') X.env v = (do
      let ov ← holding [v] (eval o X.env)
      let iv ← holding [v, ov] (eval ei X.env)
      standAt pos'
      holding [v, ov, iv] (setItem ov iv v)
      release [v, ov, iv] []) := by intro _; rfl)
    (hs : swapsWithSole [.Subscript o ei pos'] e pos.line X.env = pure false := by rfl) (hw : swappedStores [.Subscript o ei pos'] e X.env = pure none := by rfl)
    (h1 : (assignEach [.Subscript o ei pos'] X.env).map (·.2) = [assign (.Subscript o ei pos') X.env] := by rfl) : VSt X b W (.Assign [.Subscript o ei pos'] e pos) (sStoL i ty tv) :=
  ps_mono (ps_asg hv (pg_sub ho hi set_list ha) hs hw h1) fun Dn σ H ⟨H0, M, Zo, Z, ρ, De, f, ⟨xs, e1, q⟩, l⟩ => by
    refine ⟨Zo, Z, ρ, _, _, f.v, q, fun v H1 dv x1 g1 r1 ⟨p, ep, q1⟩ => ?_, l.er f⟩
    subst ep
    have f1 := f.ex x1 g1
    obtain ⟨a, h1, h2, h3, h4⟩ := f1.v.own i _ e1
    refine ⟨.ref a, h1, Zo, Z, ρ, _, _, f1.v, q1, fun y H2 dy x2 g2 r2 ⟨k, ey, ys, es, q2⟩ => ?_, l.er f1⟩
    subst ey
    obtain rfl := Rb.int (b := b) (Z := Z) (H := H2) (.inl r2)
    have f2 := f1.ex x2 g2
    obtain ⟨a', h1', h2', h3', xs', h4', h5'⟩ := f2.v.own i _ e1
    rw [h1] at h1'; cases h1'
    unfold setAt at es
    cases ej : ixN xs.length k with
    | none => rw [ej] at es; cases es
    | some j =>
      rw [ej] at es; cases es
      refine ⟨a, xs', k, j, rfl, rfl, h4', by rw [h5'.length]; exact ej, l.nx _ _ _ _ (f2.mut (d' := .py (.list (xs.set j p))) e1 h1 ⟨_, upd_same, ?_⟩) q2⟩
      exact (h5'.set (f1.v.rq x2 r1) j).mono (fun c z => .inl z) fun c u e n => by
        rw [upd_ne (fun w => n (by rw [w]; exact h2))]
        exact e
end
end VL
set_option Elab.async false
set_option linter.all false
set_option maxRecDepth 100000
set_option maxHeartbeats 4000000
namespace VL
open PySem PySem.Spec PyProof.Rows L2 HT TL
theorem hu65 {A : Around} {k : Nat} (r : Room k A) : A.units + 65 < cLine := by have := r.un; omega
/-! ### texts as lists of signs -/
@[simp] theorem mkS_inj {a b : List Nat} : mkS a = mkS b ↔ a = b := ⟨fun e => by have := congrArg sl e; simpa using this, fun e => by rw [e]⟩
@[simp] theorem mkS_app (a b : List Nat) : mkS a ++ mkS b = mkS (a ++ b) := ext_tl (by rw [tl_append])
@[simp] theorem beq_mkS (a b : List Nat) : (mkS a == mkS b) = (a == b) := by
  by_cases h : a = b
  · subst h; simp
  · have h2 : mkS a ≠ mkS b := fun e => h (mkS_inj.mp e)
    rw [beq_eq_false_iff_ne.mpr h2, beq_eq_false_iff_ne.mpr h]
@[simp] theorem repS_mkS (l : List Nat) (k : Int) : repS (mkS l) k = mkS (List.replicate k.toNat l).flatten := rfl
@[simp] theorem cps_mkS (l : List Nat) : (mkS l).cps = l.toArray := rfl
def encC (c : Nat) : PyData := .str (mkS [c])
@[simp] theorem encC_eq (c : Nat) : encC c = .str (mkS [c]) := rfl
theorem signsD_mkS (l : List Nat) : signsD (mkS l) = l.map encC := rfl
@[simp] theorem str_ab (a b : Str) : (PyData.str a = PyData.str b) ↔ a = b := ⟨fun e => by injection e, fun e => by rw [e]⟩
open Builtin.Str in
theorem occ_step (z : Str) (c k lim : Nat) (st : Array Nat × Nat) (h1 : st.2 ≤ k) (h2 : st.1.size < lim) : StrLaws.occBody z ⟨#[c]⟩ z.length lim k st = if (sl z)[k]? = some c then pure (ForInStep.yield (st.1.push k, k + 1)) else pure (ForInStep.yield (st.1, st.2)) := by
  unfold StrLaws.occBody
  have e := StrLaws.subAt_one z c k
  by_cases h : (sl z)[k]? = some c
  · have h' := e.mpr h
    rw [if_pos ⟨⟨⟨h2, h1⟩, h'.1⟩, h'.2⟩, if_pos h]
    rfl
  · rw [if_neg (fun q => h (e.mp ⟨q.1.2, q.2⟩)), if_neg h]
theorem occ_sign (z : Str) (c : Nat) : ∀ (n k free : Nat) (acc : Array Nat), free ≤ k → acc.size ≤ k → k + n = z.length + 1 →
    (forIn (List.range' k n) (acc, free) (StrLaws.occBody z ⟨#[c]⟩ z.length (z.length + 1))).run.fst.toList.length = acc.size + ((sl z).drop k).count c
  | 0, k, free, acc, h1, h2, h3 => by
    have : (sl z).drop k = [] := List.drop_eq_nil_of_le (by rw [slen]; omega)
    rw [this]; simp
  | n + 1, k, free, acc, h1, h2, h3 => by
    rw [List.range'_succ, List.forIn_cons, occ_step z c k _ (acc, free) h1 (by show acc.size < _; omega)]
    by_cases hk : k < z.length
    · have hk' : k < (sl z).length := by rw [slen]; exact hk
      rw [List.drop_eq_getElem_cons hk', List.getElem?_eq_getElem hk']
      by_cases hc : (sl z)[k] = c
      · rw [if_pos (by rw [hc]), hc, List.count_cons_self]
        have := occ_sign z c n (k + 1) (k + 1) (acc.push k) (by omega) (by simp; omega) (by omega)
        rw [Array.size_push] at this
        simp only [pure_bind]
        omega
      · rw [if_neg (by simpa using hc), List.count_cons_of_ne (by simpa using hc)]
        exact occ_sign z c n (k + 1) free acc (by omega) (by omega) (by omega)
    · have e : (sl z).drop k = [] := List.drop_eq_nil_of_le (by rw [slen]; omega)
      rw [if_neg (by rw [List.getElem?_eq_none (by rw [slen]; omega)]; simp), e]
      have := occ_sign z c n (k + 1) free acc (by omega) (by omega) (by omega)
      have e2 : (sl z).drop (k + 1) = [] := List.drop_eq_nil_of_le (by rw [slen]; omega)
      rw [e2] at this
      exact this
theorem count_sign (z : Str) (c : Nat) : Txt.count z (mkS [c]) = ((sl z).count c : Nat) := by
  unfold Txt.count
  rw [StrLaws.occ_eq]
  have := occ_sign z c (z.length + 1 - 0) 0 0 #[] (by omega) (by simp) (by omega)
  simp at this ⊢
  exact_mod_cast this
@[simp] theorem count_mkS (l : List Nat) (c : Nat) : Txt.count (mkS l) (mkS [c]) = (l.count c : Nat) := by rw [count_sign, sl_mkS]
@[simp] theorem atI_zero {α : Type} (x : α) (xs : List α) : atI (x :: xs) 0 = some x := by
  have e : ixN (x :: xs).length 0 = some 0 := by
    unfold ixN
    rw [if_pos (by omega), if_pos (by simp)]; rfl
  unfold atI
  rw [e]; rfl
theorem allI_mk (ls : List Int) : allI (ls.map PyData.int) = some ls := by
  induction ls with
  | nil => rfl
  | cons l ls ih => simp [allI, ih]
theorem allB_mk (ls : List Bool) : allB (ls.map PyData.bool) = some ls := by
  induction ls with
  | nil => rfl
  | cons l ls ih => simp [allB, ih]
theorem allI_pN (ls : List Nat) : allI (ls.map pN) = some (ls.map fun (n : Nat) => (n : Int)) := by
  have : ls.map pN = (ls.map fun (n : Nat) => (n : Int)).map PyData.int := by rw [List.map_map]; rfl
  rw [this, allI_mk]
section
variable {g : VTg} {tt : VB} {te : VT} {tb : VS} {De : VEnds} {ρ : VEnv} {Q : D → Prop} {α β : Type}
theorem lc_encF' (enc : α → PyData) (p : α → Bool) (e : α → PyData) {L : List α} (h : ∀ (i : Nat) (x : α), L[i]? = some x → ∀ k, (p x = true → k (some (e x))) → (p x = false → k none) → lcStep g tt te (.py (enc x)) ρ k)
    (hl : L.length < 16777216) (q : Q (.py (.list ((L.filter p).map e)))) : lcGo g tt te Q (L.map (D.py ∘ enc)) [] ρ := by
  rw [← List.map_map]; exact lc_encF enc p e h hl q
theorem lc_encM' (enc : α → PyData) (e : α → PyData) {L : List α} (h : ∀ (i : Nat) (x : α), L[i]? = some x → ∀ k, k (some (e x)) → lcStep g tt te (.py (enc x)) ρ k)
    (hl : L.length < 16777216) (q : Q (.py (.list (L.map e)))) : lcGo g tt te Q (L.map (D.py ∘ enc)) [] ρ := by
  rw [← List.map_map]; exact lc_encM enc e h hl q
theorem for_enc' (enc : α → PyData) (Iv : Nat → VEnv → Prop) {L : List α} (h0 : Iv 0 ρ) (h : ∀ i x ρ, L[i]? = some x → Iv i ρ → ∀ nx ct : VEnv → Prop, (∀ ρ', Iv (i + 1) ρ' → nx ρ' ∧ ct ρ') → g (.py (enc x)) ρ fun ρ1 => tb ρ1 ⟨nx, De.rt, De.nx, ct, De.ex, De.ro⟩) (hd : ∀ ρ, Iv L.length ρ → De.nx ρ) :
    forGo g tb (L.map (D.py ∘ enc)) ρ De := by
  rw [← List.map_map]; exact for_enc enc Iv h0 h hd
end
end VL
set_option Elab.async false
set_option linter.all false
set_option maxRecDepth 100000
set_option maxHeartbeats 4000000
/-! ### isinstance of a caught error that has a dict -/
namespace PySem.W
open PySem PySem.Spec PySem.Calls PyProof.Rows
end PySem.W
namespace VL
open PySem PySem.Spec PyProof.Rows L2 HT
/-! ### own errors -/
/-- n is x, or x stands above all errors of the package -/
def errSub (n x : Str) : Bool := n == x || x == "LineError" || x == "ValueError"
/-- what the written part says of an error's class -/
structure ErrC (K : PySem.W.Frag) (C : Addr) : Prop where
  hg : PySem.W.findIn K (.ref C) "__getattribute__" = some (some (.builtin "BaseException.__getattribute__"))
  hk : PySem.W.findIn K (.ref C) "__getattr__" = some none
  hs : PySem.W.subIn K (.ref C) (.type "BaseException") = some true
  hd : PySem.W.hasDictIn K C = true
  ha : PySem.W.findIn K (.ref C) "__class__" = some (some (.builtin "object.__class__"))
  hn : PySem.W.specialIn K (.builtin "object.__class__") "__get__" = some (some (.builtin "getset_descriptor.__get__"))
  ht : PySem.W.takesIn K (.builtin "object.__class__") = some true
  hm : PySem.W.mroIn K C (.type "object") = some true
/-! ### try: .. except x as n: .. -/
/-- the ends of an except suite: the name is forgotten behind it -/
@[simp] def afterS (i : Nat) (De : VEnds) : VEnds := { nx := fun ρ2 => i < ρ2.length ∧ De.nx (ρ2.set i .un), rt := De.rt, bk := fun ρ2 => i < ρ2.length ∧ De.bk (ρ2.set i .un), ct := fun ρ2 => i < ρ2.length ∧ De.ct (ρ2.set i .un), ex := fun _ _ => False, ro := De.ro }
/-- i: the slot of n; names: the errors that may be met here -/
@[simp] def sTry (i : Nat) (names : List Str) (x : Str) (tb : VS) (ts : Addr → Option Addr → Er → VS) : VS := fun ρ De => i < ρ.length ∧
  tb ρ { De with ex := fun ρ' er => i < ρ'.length ∧ er.n ∈ names ∧ if errSub er.n x = true then ∀ a d, ts a d er (ρ'.set i (.shr (.err a d er.n er.fs))) (afterS i De) else De.ex ρ' er }
end VL
set_option Elab.async false
set_option linter.all false
set_option maxRecDepth 100000
set_option maxHeartbeats 4000000
namespace VL
open PySem PySem.Spec PyProof.Rows L2 HT
abbrev veB : List Value := [.type "ValueError", .type "Exception", .type "BaseException", .type "object"]
/-! ### raise -/
/-- an error without fields can be made -/
structure Mk0 (K : PySem.W.Frag) (mg : Str → Option Value) (b : Bg) (n : Str) : Prop where
  g : mg n = some (.ref (b.cls n))
  q : PySem.W.excIn K (b.cls n) veB "ValueError.__new__" = true
  k : PySem.W.keepIn K (.ref (b.cls n)) = true
  s : PySem.W.subIn K (.ref (b.cls n)) (.type "BaseException") = some true
  t : PySem.W.typeIn K (.ref (b.cls n)) = some (.type "type")
theorem pmk_own0 {X : Cx} {C : Addr} {bmB : List Value} {B newId initId : String} {x : Str} {p pos : Pos} (F : ExcBaseFacts B newId initId bmB) (q : PySem.W.excIn X.K C bmB newId = true) (gC : X.mg x = some (.ref C))
    (kC : PySem.W.keepIn X.K (.ref C) = true) (r : Raises X (.ref C)) (hg : Gl X x) (hdb : (x == ("__debug__" : Str)) = false := by decide) :
    PMk X (.Call (.Name x p) [] [] pos) (fun _ H Q => Q (.ref C) none H) := by
  intro pins s σ H Q I h
  refine wpAny_Call_Name_kw (ld_glob I hg gC (PySem.W.callWith_K0 I.kIn kC ?_) hdb)
  show wpAny _ _ (call (.ref C) []) _ _ _
  obtain ⟨bm, N, nm, qn, bs, hdct, sn, sub, ab, col, dd, k0, k1, k2, k3, k5, mN, hC, hN, hni, T⟩ := exc_obj I.kIn q
  refine wpAny_call_exc_subT F T hC hN hni (fun h' e hm => ?_) (Nat.zero_le _)
  exact mk_of I hm r h (I.hok.gone hm.new)
@[simp] def sRaise0 (n : Str) : VS := fun ρ De => De.ex ρ ⟨n, []⟩
@[simp] def sRaise1 (n f : Str) (t : VT) : VS := fun ρ De => t ρ (fun d => ∃ p, d = .py p ∧ De.ex ρ ⟨n, [(f, p)]⟩) (De.ex ρ)
/-- what an error's own __init__ promises -/
def spInit (K : PySem.W.Frag) (f : Str) : Sp := fun vs H Q _ => ∃ (a C : Addr) (v : V), vs = [.ref a, v] ∧ OexC K C ∧ PySem.W.findIn K (.ref C) f = some none ∧ H a = some (exo a C none) ∧ ∀ dx, H dx = none → dx ≠ a → Q .non (upd (upd H dx (exd dx [(f, v)])) a (exo a C (some dx)))
theorem ok_init {P : Program} {w : World} {K : PySem.W.Frag} {mg : Str → Option Value} {base : Heap} {x qual f prm : Str} {st : Stmt} {fa : Addr} {fd : FuncData} {p1 p2 p3 p4 : Pos} (F : Fun K x qual st fa fd) (Sc : FnScope ["self", prm] ["self", prm] (defScope st))
    (hst : defBody st = [.Assign [.Attribute (.Name "self" p1) f p2] (.Name prm p3) p4]) (h0 : (defScope st).names.lookup ("self" : Str) = some .local) (h1 : (defScope st).names.lookup prm = some .local) (hd : (prm == ("__debug__" : Str)) = false) (hcd : (prm == ("__classdict__" : Str)) = false) :
    FnOk P w K mg base (L2.CX P w) 1 fa fd ["self", prm] (spInit K f) := by
  refine F.okX Sc (fun vs H Q E ⟨a, C, v, e, _⟩ => by rw [e]; rfl) fun cdv A outer s H vs Q E hr h => ?_
  rw [hst]
  refine ⟨_, pss_one (ps_ost (pe_var (i := 0) rfl (.inl h0)) (pe_var (i := 1) rfl (.inl h1) hd hcd)), ?_⟩
  obtain ⟨a, C, v, rfl, T, hno, e, q⟩ := h
  exact ⟨v, rfl, .ref a, rfl, a, C, rfl, T, hno, .inl ⟨e, fun dx hd hne => q dx hd hne⟩⟩
/-- an error with the field f can be made -/
structure Mk1 (P : Program) (w : World) (K : PySem.W.Frag) (mg : Str → Option Value) (base : Heap) (b : Bg) (n f : Str) where
  g : mg n = some (.ref (b.cls n))
  T : OexC K (b.cls n)
  hno : PySem.W.findIn K (.ref (b.cls n)) f = some none
  fI : Addr
  fd : FuncData
  prm : Str
  iC : PySem.W.findIn K (.ref (b.cls n)) "__init__" = some (some (.ref fI))
  tI : PySem.W.typeIn K (.ref fI) = some (.type "function")
  F : FnOk P w K mg base (L2.CX P w) 1 fI fd ["self", prm] (spInit K f)
  bd : Binds K fd ["self", prm] []
section
variable {X : Cx} {b : Bg} {W : WX} {n f : Str} {e : Expr} {t : VT} {p pos pos2 : Pos} {j : Nat}
theorem vs_raise0 (M : Mk0 X.K X.mg b n) (hc : X.calm = true) (tk : Takes X W) (hg : Gl X n) (hdb : (n == ("__debug__" : Str)) = false := by decide) : VSt X b W (.Raise (some (.Call (.Name n p) [] [] pos)) none pos2) (sRaise0 n) :=
  ps_mono (ps_raise hc tk (pmk_own0 PySem.F.excBase_ValueError M.q M.g M.k (raises_own M.s M.t) hg hdb)) fun D σ H ⟨H0, Mo, Zo, Z, ρ, De, fo, q, l⟩ => l.ex _ _ _ _ _ _ ⟨n, []⟩ fo ⟨rfl, .inl ⟨rfl, rfl⟩⟩ q
theorem vs_raise1 (M : Mk1 X.prog X.w X.K X.mg X.base b n f) (hr : Room j X.A) (hc : X.calm = true) (tk : Takes X W) (hg : Gl X n) (he : VE X b W e t) (hj : 2 ≤ j := by decide) (hdb : (n == ("__debug__" : Str)) = false := by decide)
    (hs : starEach [e] X.env = (false, eval e X.env) :: starEach [] X.env := by rfl) (hpl : (backTo pos (starEach [] X.env)).any (·.1) = false := by rfl) :
    VSt X b W (.Raise (some (.Call (.Name n p) [e] [] pos)) none pos2) (sRaise1 n f t) :=
  ps_mono (ps_raise hc tk (pmk_oex (k := 1) (ds := []) (dvs := []) M.T M.iC M.tI M.F (hr.mono hj) M.bd .nil passL hg M.g (va_cons he va_nil hs) hdb hs hpl)) fun D σ H ⟨H0, Mo, Zo, Z, ρ, De, fo, q, l⟩ => by
    refine ⟨Zo, Z, ρ, fun ds => match ds with | [d] => ∃ p, d = .py p ∧ De.ex ρ ⟨n, [(f, p)]⟩ | _ => False, De.ex ρ, fo.v, q, fun vs H1 ds x1 g1 r1 q1 => ?_, l.er fo⟩
    match ds, q1, r1 with
    | [_], ⟨p, rfl, q1⟩, .cons (v := v) rv .nil =>
      refine ⟨by show 1 ≤ 1000; omega, fun a ha => ⟨a, b.cls n, v, rfl, M.T, M.hno, upd_same, fun dx hd hne => ⟨rfl, dx, [(f, v)], upd_same, ?_, ?_, ?_⟩⟩⟩
      · rw [upd_ne hne]; exact upd_same
      · rw [upd_ne hne] at hd; exact hd
      · have hd1 : H1 dx = none := by rw [upd_ne hne] at hd; exact hd
        generalize hHf : upd (del (upd (upd (upd H1 a (exo a (b.cls n) none)) dx (exd dx [(f, v)])) a (exo a (b.cls n) (some dx))) a) dx (.xd [(f, v)]) = Hf
        have at_ : ∀ c, c ≠ a → c ≠ dx → Hf c = H1 c := fun c c1 c2 => by rw [← hHf, upd_ne c2, del_ne c1, upd_ne c1, upd_ne c2, upd_ne c1]
        have hfd : Hf dx = some (.xd [(f, v)]) := by rw [← hHf]; exact upd_same
        have x2 : Ex b H1 Hf := fun c o hc _ => by
          rw [at_ c (fun z => by rw [z, ha] at hc; cases hc) (fun z => by rw [z, hd1] at hc; cases hc)]
          exact hc
        have g2 : b.G Hf := b.loc H1 Hf (fun c hc => at_ c (fun z => b.dom H1 c g1 hc (by rw [z]; exact ha)) (fun z => b.dom H1 c g1 hc (by rw [z]; exact hd1))) (fun c o _ e => by rw [at_ c (fun z => by rw [z, ha] at e; cases e) (fun z => by rw [z, hd1] at e; cases e)]; exact e) g1
        have f1 := fo.ex x1 g1
        have f2 := f1.ex x2 g2
        refine l.ex _ _ _ _ _ _ ⟨n, [(f, _)]⟩ f2 ⟨rfl, .inr ⟨dx, _, rfl, hfd, f1.v.fresh hd1, .cons (f1.v.rq x2 rv) .nil⟩⟩ q1
end
end VL
set_option Elab.async false
set_option linter.all false
set_option maxRecDepth 100000
set_option maxHeartbeats 4000000
namespace VL
open PySem PySem.Spec PyProof.Rows L2 HT
/-! ### in an except suite: what is asked of the error -/
/-- the error's field f -/
@[simp] def vErrF (a : Addr) (d : Option Addr) (er : Er) (i : Nat) (nf : List Str) (f : Str) : VT := fun ρ Q _ => ρ[i]? = some (.shr (.err a d er.n er.fs)) ∧ er.n ∈ nf ∧ ∃ p, er.fs.lookup f = some p ∧ Q (.py p)
/-- isinstance(error, x) -/
@[simp] def vErrI (a : Addr) (d : Option Addr) (er : Er) (i : Nat) (names : List Str) (x : Str) : VT := fun ρ Q _ => ρ[i]? = some (.shr (.err a d er.n er.fs)) ∧ er.n ∈ names ∧ Q (.py (.bool (errSub er.n x)))
/-- isinstance(error, (x, ..)) -/
@[simp] def vErrIT (a : Addr) (d : Option Addr) (er : Er) (i : Nat) (names xs : List Str) : VT := fun ρ Q _ => ρ[i]? = some (.shr (.err a d er.n er.fs)) ∧ er.n ∈ names ∧ Q (.py (.bool (xs.any fun x => errSub er.n x)))
end VL
set_option Elab.async false
set_option linter.all false
set_option maxRecDepth 100000
set_option maxHeartbeats 4000000
namespace VL
open PySem PySem.Spec PyProof.Rows L2 HT
/-! ### the facts of the errors' classes, for the join -/
/-- what every error's class that is raised must say -/
structure RaiB (K : PySem.W.Frag) (C : Addr) (n : Str) : Prop where
  ns : PySem.W.nsIn K mainGlobals n = some (some (.ref C))
  kC : PySem.W.keepIn K (.ref C) = true
  tyC : PySem.W.typeIn K (.ref C) = some (.type "type")
  sf : PySem.W.selfFirst K C = true
  ve : PySem.W.subIn K (.ref C) (.type "ValueError") = some true
  ec : ErrC K C
theorem raiB {K : PySem.W.Frag} {C : Addr} {n : Str} (a1 : PySem.W.nsIn K mainGlobals n = some (some (.ref C))) (a2 : PySem.W.keepIn K (.ref C) = true) (a3 : PySem.W.typeIn K (.ref C) = some (.type "type")) (a4 : PySem.W.selfFirst K C = true)
    (a5 : PySem.W.subIn K (.ref C) (.type "ValueError") = some true)
    (b1 : PySem.W.findIn K (.ref C) "__getattribute__" = some (some (.builtin "BaseException.__getattribute__"))) (b2 : PySem.W.findIn K (.ref C) "__getattr__" = some none) (b3 : PySem.W.subIn K (.ref C) (.type "BaseException") = some true) (b4 : PySem.W.hasDictIn K C = true)
    (b5 : PySem.W.findIn K (.ref C) "__class__" = some (some (.builtin "object.__class__"))) (b6 : PySem.W.specialIn K (.builtin "object.__class__") "__get__" = some (some (.builtin "getset_descriptor.__get__"))) (b7 : PySem.W.takesIn K (.builtin "object.__class__") = some true) (b8 : PySem.W.mroIn K C (.type "object") = some true) : RaiB K C n := ⟨a1, a2, a3, a4, a5, ⟨b1, b2, b3, b4, b5, b6, b7, b8⟩⟩
structure Rai0 (K : PySem.W.Frag) (n : Str) : Prop where
  ex : ∃ C : Addr, RaiB K C n ∧ PySem.W.excIn K C veB "ValueError.__new__" = true
theorem rai0 {K : PySem.W.Frag} {C : Addr} {n : Str} (r : RaiB K C n) (q : PySem.W.excIn K C veB "ValueError.__new__" = true) : Rai0 K n := ⟨C, r, q⟩
structure RaiI (K : PySem.W.Frag) (C : Addr) (n qual f : Str) (st : Stmt) : Prop where
  b : RaiB K C n
  T : OexC K C
  no : PySem.W.findIn K (.ref C) f = some none
  ini : ∃ (fI : Addr) (fd : FuncData), Fun K "__init__" qual st fI fd ∧ PySem.W.findIn K (.ref C) "__init__" = some (some (.ref fI)) ∧ PySem.W.typeIn K (.ref fI) = some (.type "function")
structure Rai1 (K : PySem.W.Frag) (n qual f : Str) (st : Stmt) : Prop where
  ex : ∃ C : Addr, RaiI K C n qual f st
theorem rai1 {K : PySem.W.Frag} {C fI : Addr} {n qual f : Str} {st : Stmt} {oc kV doc pm cdv ct : Value} {od an : Option Addr} {osl : Array (Option Value)} {nm q : Str} {N : Addr} {bs bm : List Value} {sn : List Str} {sub : List Value} {ab : Bool} {col : Option Bool} {dd : Option Addr} {k0 k1 k2 k3 k5 : Option Value} (r : RaiB K C n)
    (c1 : K.lookup C = some (excClassObj nm q C N bs bm true sn sub ab col dd k0 k1 k2 k3 k5 "ValueError.__new__")) (c2 : PySem.HandSPX.refsVE bm = true) (c3 : PySem.W.findIn K (.ref C) "__setattr__" = some (some (.builtin "object.__setattr__"))) (c4 : PySem.W.findIn K (.ref C) f = some none)
    (d1 : PySem.W.findIn K (.ref C) "__init__" = some (some (.ref fI))) (d2 : PySem.W.typeIn K (.ref fI) = some (.type "function")) (d3 : K.lookup fI = some ⟨oc, od, .func (PySem.W.fnOf "__init__" qual (defArgs st) (defBody st) (defScope st) .none kV doc pm an cdv ct), osl⟩) (d4 : PySem.W.codeIn K cdv qual = true) (d5 : PySem.W.keepIn K (.ref fI) = true) : Rai1 K n qual f st :=
  ⟨C, r, ⟨⟨nm, q, N, bs, bm, sn, sub, ab, col, dd, k0, k1, k2, k3, k5, c1, c2⟩, c3, r.ec.hs, r.tyC, r.kC⟩, c4, fI, _, fun_mk d3 d4 d5, d1, d2⟩
section
variable {K : PySem.W.Frag} {h : Heap} {mg : Str → Option Value} {b : Bg} {n x qual f prm : Str} {C : Addr} {st : Stmt} {names : List Str}
theorem RaiB.mk0 (r : RaiB K (b.cls n) n) (q : PySem.W.excIn K (b.cls n) veB "ValueError.__new__" = true) (X : K.In h) (G : h.Ns mainGlobals mg) : Mk0 K mg b n := ⟨PySem.W.mg_of X G r.ns, q, r.kC, r.ec.hs, r.tyC⟩
theorem RaiI.mk1 {P : Program} {w : World} {base : Heap} (r : RaiI K (b.cls n) n qual f st) (X : K.In h) (G : h.Ns mainGlobals mg) (wk : ∀ (fa : Addr) (fd : FuncData), Fun K "__init__" qual st fa fd → FnOk P w K mg base (L2.CX P w) 1 fa fd ["self", prm] (spInit K f))
    (bd : ∀ (kV doc pm : Value) (an : Option Addr) (cdv ct : Value) (us : List Value), us.length = (["self", prm] : List Str).length → bindArgs (PySem.W.fnOf "__init__" qual (defArgs st) (defBody st) (defScope st) .none kV doc pm an cdv ct) ⟨us, []⟩ = pure ((["self", prm] : List Str).zip us)) : Nonempty (Mk1 P w K mg base b n f) := by
  obtain ⟨fI, fd, F, iC, tI⟩ := r.ini
  exact ⟨⟨PySem.W.mg_of X G r.b.ns, r.T, r.no, fI, fd, prm, iC, tI, wk fI fd F, F.binds bd⟩⟩
end
/-- the classes' addresses by their names -/
def clsOf : List (Str × Addr) → Addr → Str → Addr
  | [], fa, _ => fa
  | (m, C) :: r, fa, n => if m = n then C else clsOf r fa n
theorem clsOf_hd {m : Str} {C fa : Addr} {r : List (Str × Addr)} : clsOf ((m, C) :: r) fa m = C := if_pos rfl
theorem clsOf_tl {m n : Str} {C fa : Addr} {r : List (Str × Addr)} (h : (m == n) = false) : clsOf ((m, C) :: r) fa n = clsOf r fa n := if_neg (by simpa using h)
/-- a def within a class -/
def clsDef (s : Stmt) (i : Nat) : Stmt := match s with
  | .ClassDef _ _ _ b _ _ _ _ _ _ _ => b.getD i (.Pass ⟨0, 0, 0, 0⟩)
  | s => s
end VL
set_option Elab.async false
set_option linter.all false
set_option maxRecDepth 100000
set_option maxHeartbeats 2000000
/-! VL38: defs with one star parameter, called plainly. -/
namespace VL
open PySem PySem.Spec PyProof.Rows L2
@[simp] def svStar (S : SV) : SV := fun ds Q E => ∃ ps, pys ds = some ps ∧ ps.length ≤ sizeLine ∧ S [.py (.tuple ps)] Q E
structure CalR (P : Program) (w : World) (K : PySem.W.Frag) (mg : Str → Option Value) (base : Heap) (b : Bg) (k : Nat) (x : Str) (S : SV) where
  f : Addr
  F : FnR P w K mg base (L2.CX P w) k f (spV b S)
  g : mg x = some (.ref f)
  kp : PySem.W.keepIn K (.ref f) = true
end VL
set_option Elab.async false
set_option linter.all false
set_option maxRecDepth 100000
set_option maxHeartbeats 2000000
/-! VL39: list.count of bools -/
namespace VL
open PySem PySem.Spec PyProof.Rows L2
theorem bools_vals : ∀ {us : List Value} {ns : List Bool}, Vals (ns.map V.bl) us → us = ns.map Value.bool
  | [], [], .nil => rfl
  | _, n :: ns, .cons r t => by
    cases r
    rw [List.map_cons, bools_vals t]
@[simp] def isLi : D → Prop
  | .py (.list _) => True
  | _ => False
@[simp] def gCountB : D → List D → (D → Prop) → Prop
  | .py (.list xs), [.py (.bool k)], Q => ∃ ns, allB xs = some ns ∧ Q (.py (.int (ns.count k : Nat)))
  | _, _, _ => False
end VL
set_option Elab.async false
set_option linter.all false
set_option maxRecDepth 100000
set_option maxHeartbeats 4000000
/-! VL40: the law's head for any background; the gear: a list of three numbers that a def draws from -/
namespace VL
open PySem PySem.Spec PyProof.Rows L2
theorem law_restX {B : Bg} {r : Addr} {H : Hp} {N : List Str} {i : Nat} {a : Addr} {t : VS} {Q : VK} {E : XK} (hG : B.G H) (h0 : 0 < N.length) (hi : i < N.length)
    (law : t (envBag N.length i r) (fin isTrue' noE)) (q : ∀ H', Q (.bl true) H') : LS B (WF E) t { nx := fun _ H' => Q .non H', rt := Q } ((L2.start N [.ref a]).set i (some (.ref r))) H := by
  have hl : (L2.start N [V.ref a]).length = N.length := by
    unfold L2.start
    rw [List.length_append, List.length_map, List.length_replicate, List.length_singleton]
    omega
  refine ⟨H, fun _ => False, B.B, B.B, _, _, ⟨⟨hG, fun _ z => z, fun _ z => z, fun a z => B.dom H a hG z, fun _ z => .inl z, fun j d e => ?_, fun j k d e c h1 _ _ _ => ?_, fun j d e => ?_, ?_⟩, fun _ _ e _ _ => e, fun j d c h1 _ => ?_⟩, law, ⟨fun _ _ _ _ _ h => (by cases h), fun v H' d _ _ rp h => ?_, fun _ _ _ _ _ h => h.elim, fun _ _ _ _ _ h => h.elim, fun _ _ _ _ _ _ _ _ _ h => h.elim, fun _ _ _ _ _ _ _ _ h => h.elim⟩⟩
  · rcases envBag_at e with h | ⟨_, h⟩ <;> cases h
  · rcases envBag_at h1 with h | ⟨_, h⟩ <;> cases h
  · rcases envBag_at e with h | ⟨ej, h⟩
    · cases h
    · cases h
      subst ej
      exact ⟨.ref r, List.getElem?_set_self (by rw [hl]; exact hi), rfl⟩
  · unfold envBag
    rw [List.length_set, List.length_replicate, List.length_set, hl]
  · rcases envBag_at h1 with h | ⟨_, h⟩ <;> cases h
  · have h' : d = .py (.bool true) := h
    subst h'
    have rp' : Rq B.B H' v (.bool true) := rp
    cases rp'
    exact q H'
section
variable {P : Program} {w : World} {K : PySem.W.Frag} {mg : Str → Option Value} {base : Heap} {k k0 : Nat} {st : Stmt} {f fo : Addr} {fd fdo : FuncData} {N : List Str}
theorem lawX {ι : Type} (Bf : ι → Bg) (rf : ι → Addr) {spO : Sp} {bn on : Str} (hO : ∀ (a : Addr) (ns : List Int) (H : Hp) (Q : VK) (E : XK), SqL K H a (ns.map V.int) → ns.length ≤ 63 → (∀ x H', (Bf x).G H' → Q (.ref (rf x)) H') → spO [.ref a] H Q E) {i : Nat} {t : ι → VS} {p1 p2 p3 p4 p5 : Pos} {rest : List Stmt} {nm : Str} (F : Fun K nm nm st f fd) (Sc : FnScope N ["_law_script"] (defScope st))
    (hst : defBody st = .Assign [.Name bn p1] (.Call (.Name on p2) [.Name "_law_script" p3] [] p4) p5 :: rest)
    (FO : FnOk P w K mg base (L2.CX P w) k0 fo fdo ["_law_script"] spO) (gO : mg on = some (.ref fo)) (kO : PySem.W.keepIn K (.ref fo) = true) (bO : Binds K fdo ["_law_script"] []) (hk : k0 ≤ k) (hdb : (on == ("__debug__" : Str)) = false := by decide)
    (hi : N[i]? = some bn) (h0 : N[0]? = some ("_law_script" : Str)) (hloc : Loc (defScope st) bn) (hloc0 : (defScope st).names.lookup ("_law_script" : Str) = some .local) (hgl : (defScope st).names.lookup on = some .globalImplicit)
    (hbody : ∀ (x : ι) (cdv : Value) (A : Around) (outer : List Env) (s : Shared) (H : Hp) (E : XK), Room k (A.deeper (envOfC nm (defScope st) s.heap.objs.size f cdv)) → (A.deeper (envOfC nm (defScope st) s.heap.objs.size f cdv)).guards = some [] →
      Takes (cxOf (L2.CX P w) P w K mg base N nm (defScope st) f cdv A outer s H E) (WF E) → VSs (cxOf (L2.CX P w) P w K mg base N nm (defScope st) f cdv A outer s H E) (Bf x) (WF E) rest (t x))
    (law : ∀ x, t x (envBag N.length i (rf x)) (fin isTrue' noE)) : FnG P w K mg base (k + 1) f fd ["_law_script"] (spLaw K) := by
  refine fnG F Sc (fun vs H Q E ⟨a, ns, e, _⟩ => by rw [e]; rfl) fun cdv A outer s H vs Q E hr hg ⟨a, ns, ev, hS, hl, q⟩ => ?_
  subst ev
  rw [hst]
  have tk : Takes (cxOf (L2.CX P w) P w K mg base N nm (defScope st) f cdv A outer s H E) (WF E) := takes_of rfl rfl rfl rfl
  have hN0 : 0 < N.length := (List.getElem?_eq_some_iff.mp h0).1
  have hNi : i < N.length := (List.getElem?_eq_some_iff.mp hi).1
  refine ⟨_, pss_cons (ps_set (X := cxOf (L2.CX P w) P w K mg base N nm (defScope st) f cdv A outer s H E) (i := i) Sc.nd hi hloc (pe_callS FO (hr.mono hk) ?_ gO kO bO (fun σ => passAt tk σ) (pa_cons (pe_var h0 (.inl hloc0)) pa_nil) hdb) (by rfl) (.inl rfl))
    (pss_ex fun x => hbody x cdv A outer s H E hr hg tk), ?_⟩
  · exact hgl
  · refine ⟨.ref a, ?_, hO a ns _ _ _ hS hl fun x H' hG => ⟨x, law_restX hG hN0 hNi (law x) q⟩⟩
    unfold L2.start
    rfl
end
/-! ### the gear -/
end VL
set_option Elab.async false
set_option linter.all false
set_option maxRecDepth 100000
set_option maxHeartbeats 2000000
/-! VL41: isinstance with a pair of classes; a promise that nothing may ask -/
namespace VL
open PySem PySem.Spec PyProof.Rows L2
@[simp] def vIsi2 (T1 T2 : String) (t : VT) : VT := fun ρ Q E => t ρ (fun d => ∃ p, d = .py p ∧ ∃ k1 k2, isK T1 p = some k1 ∧ isK T2 p = some k2 ∧ Q (.py (.bool (k1 || k2)))) E
end VL
set_option Elab.async false
set_option linter.all false
set_option maxRecDepth 100000
set_option maxHeartbeats 4000000
/-! VL42: sorted of lists and tuples of ints -/
namespace VL
open PySem PySem.Spec PyProof.Rows L2
/-! ### over values -/
theorem perm_sorted_eq : ∀ {xs ys : List Int}, xs.Perm ys → xs.Pairwise (· ≤ ·) → ys.Pairwise (· ≤ ·) → xs = ys
  | [], ys, h, _, _ => h.nil_eq
  | x :: xs, [], h, _, _ => (List.Perm.nil_eq h.symm).symm
  | x :: xs, y :: ys, h, h1, h2 => by
    rw [List.pairwise_cons] at h1 h2
    have e : x = y := by
      have m1 : x ∈ y :: ys := h.mem_iff.mp List.mem_cons_self
      have m2 : y ∈ x :: xs := h.mem_iff.mpr List.mem_cons_self
      rcases List.mem_cons.mp m1 with e | e
      · exact e
      · rcases List.mem_cons.mp m2 with e' | e'
        · exact e'.symm
        · have := h1.1 y e'
          have := h2.1 x e
          omega
    subst e
    rw [perm_sorted_eq (List.perm_cons _ |>.mp h) h1.2 h2.2]
def sortI (ns : List Int) : List Int := ns.mergeSort (fun a b => decide (a ≤ b))
theorem sortI_perm (ns : List Int) : (sortI ns).Perm ns := List.mergeSort_perm _ _
theorem sortI_sorted (ns : List Int) : (sortI ns).Pairwise (· ≤ ·) := by
  have := List.pairwise_mergeSort (le := fun a b : Int => decide (a ≤ b)) (fun a b c h1 h2 => by simp at *; omega) (fun a b => by simp; omega) ns
  exact this.imp fun h => by simpa using h
theorem sortI_eq {ns ms : List Int} (h : ms.Perm ns) (h1 : ms.Pairwise (· ≤ ·)) : ms = sortI ns := perm_sorted_eq (h.trans (sortI_perm ns).symm) h1 (sortI_sorted ns)
@[simp] def gSorted : List D → (D → Prop) → Prop
  | [.py (.list xs)], Q => ∃ ns, allI xs = some ns ∧ Q (.py (.list ((sortI ns).map PyData.int)))
  | [.py (.tuple xs)], Q => ∃ ns, allI xs = some ns ∧ Q (.py (.list ((sortI ns).map PyData.int)))
  | _, _ => False
theorem bb_sorted : bootBuiltins "sorted" = some (.builtin "sorted") := by decide +kernel
end VL
set_option Elab.async false
set_option linter.all false
set_option maxRecDepth 100000
set_option maxHeartbeats 4000000
/-! VL43: len(set(t)), t a tuple of ints -/
namespace VL
open PySem PySem.Spec PyProof.Rows L2
section
variable {X : Cx}
def tLenSetT (K : PySem.W.Frag) (ta : TE) : TE := fun σ H Q => ta σ H fun x H1 => ∃ (l : Addr) (ns : List Int), x = V.ref l ∧ SqT K H1 l (ns.map V.int) ∧ ns.length < 1000 ∧ ∀ ks : List Int, ks.Nodup → (∀ j, j ∈ ks ↔ j ∈ ns) → Q (.int (ks.length : Nat)) H1
theorem pe_lenSetT {a : Expr} {ta : TE} {p p2 q pos : Pos} (hc : X.calm = true) (hg : Gl X "len") (hm : X.mg "len" = none) (hg2 : Gl X "set") (hm2 : X.mg "set" = none) (ha : PE X a ta)
    (na : starEach [a] X.env = (false, eval a X.env) :: starEach [] X.env := by rfl) : PE X (.Call (.Name "len" p) [.Call (.Name "set" p2) [a] [] q] [] pos) (tLenSetT X.K ta) := by
  refine ⟨fun pins s σ H Q I h => ?_⟩
  refine Call_ (ld_blt I hg hm PySem.boot_len ?_)
  refine PyProof.Rows.callWith_builtin1 (PyProof.Rows.args_cons ?_ rfl) rfl rfl
  refine Call_ (ld_blt I hg2 hm2 PyProof.Rows.boot_set ?_)
  refine PyProof.Rows.callWith_type1 (PyProof.Rows.args_cons (thn (ha.run pins s σ H _ I h) fun v s1 ⟨x, H1, I1, r1, q1⟩ => PyProof.Rows.args_nil ?_) na) na rfl
  obtain ⟨l, ns, rfl, hq, h1, q1⟩ := q1
  cases r1
  obtain ⟨its, r, pl, hz⟩ := I1.tuple hq
  refine call_set_tupI (P := X.prog) ns (I1.ok.hd hc) pl (by simpa using r.ints) (by unfold scanBound; omega) fun h' tk c hS hcn hk => ?_
  refine PyProof.Rows.args_nil ?_
  obtain ⟨o, es, ep, t, ho, hex, hd, _, hnd, hmem, _, hf, hn, _, _⟩ := hS
  have I2 : Inv X pins σ H1 { s1 with heap := h', toks := tk } := I1.kept hk
  have hes : es.size ≤ ns.length := by omega
  refine call_len_set ho hex hd hf (by omega) ⟨.int (es.size : Nat), H1, I2.tok _, ⟨_, rfl⟩, ?_⟩
  have := q1 (es.toList.map L2.keyOf) hnd (fun j => by rw [← hmem j]; simp)
  rw [List.length_map, Array.length_toList] at this
  exact this
end
@[simp] def vLenSet (t : VT) : VT := fun ρ Q E => t ρ (fun d => ∃ xs ns, d = .py (.tuple xs) ∧ allI xs = some ns ∧ ns.length < 1000 ∧ ∀ ks : List Int, ks.Nodup → (∀ j, j ∈ ks ↔ j ∈ ns) → Q (.py (.int (ks.length : Nat)))) E
theorem ve_lenSet {X : Cx} {b : Bg} {W : WX} {a : Expr} {t : VT} {p p2 q pos : Pos} (hc : X.calm = true) (hg : Gl X "len") (hm : X.mg "len" = none) (hg2 : Gl X "set") (hm2 : X.mg "set" = none) (ha : VX X b W a t)
    (na : starEach [a] X.env = (false, eval a X.env) :: starEach [] X.env := by rfl) : VE X b W (.Call (.Name "len" p) [.Call (.Name "set" p2) [a] [] q] [] pos) (vLenSet t) :=
  pe_mono (pe_lenSetT hc hg hm hg2 hm2 ha na) fun σ H Q ⟨Zo, Z, ρ, Qd, Ed, v, q, l, m⟩ => ⟨Zo, Z, ρ, _, Ed, v, q, fun x H1 d x1 g1 r1 ⟨xs, ns, ed, e, hl, q1⟩ => by
    subst ed
    obtain ⟨a, oa, us, rfl, ha, da, na, qa⟩ := r1.tuple
    rw [allI_of e] at qa
    have eu := qa.ints
    subst eu
    exact ⟨a, ns, rfl, SqT.th ha, hl, fun ks h1 h2 => l _ _ (.py (.int _)) x1 g1 (Rq.int _) (q1 ks h1 h2)⟩, m⟩
end VL
set_option Elab.async false
set_option linter.all false
set_option maxRecDepth 100000
set_option maxHeartbeats 4000000
/-! VL44: the jug: a list of a list and two numbers -/
namespace VL
open PySem PySem.Spec PyProof.Rows L2
def jugAt (r l : Addr) (gs : List Int) (H : Hp) : Prop := ∃ x n : Int, H r = some (.lst [.ref l, .int x, .int n]) ∧ H l = some (.lst (gs.map V.int)) ∧ gs.length ≤ 63
theorem jugAt.ne {r l : Addr} {gs : List Int} {H : Hp} (h : jugAt r l gs H) : r ≠ l := fun e => by
  obtain ⟨x, n, h1, h2, _⟩ := h
  subst e
  rw [h1] at h2
  cases gs <;> simp at h2
def jugB (cls : Str → Addr) (r l : Addr) : Bg where
  cls := cls
  B := fun a => a = r ∨ a = l
  G := fun H => ∃ gs, jugAt r l gs H
  loc := fun H H' h _ ⟨gs, x, n, e1, e2, e3⟩ => ⟨gs, x, n, by rw [h r (.inl rfl)]; exact e1, by rw [h l (.inr rfl)]; exact e2, e3⟩
  dom := fun H a ⟨gs, x, n, e1, e2, e3⟩ h => by
    rcases h with rfl | rfl
    · rw [e1]; simp
    · rw [e2]; simp
def KeepJ (r l : Addr) (H H' : Hp) : Prop := ∀ a o, H a = some o → a ≠ r → a ≠ l → H' a = some o
theorem KeepJ.ex {cls : Str → Addr} {r l : Addr} {H H' : Hp} (k : KeepJ r l H H') : Ex (jugB cls r l) H H' := fun a o e n => k a o e (fun h => n (.inl h)) fun h => n (.inr h)
theorem KeepJ.refl {r l : Addr} {H : Hp} : KeepJ r l H H := fun _ _ e _ _ => e
theorem KeepJ.upd {r l p : Addr} {H H1 : Hp} {o : HO} (h : KeepJ r l H H1) (hp : p = r ∨ p = l ∨ H1 p = none) : KeepJ r l H (upd H1 p o) := fun a u e n1 n2 => by
  have e1 := h a u e n1 n2
  rw [upd_ne (fun q => by
    subst q
    rcases hp with q | q | q
    · exact n1 q
    · exact n2 q
    · rw [q] at e1; cases e1)]
  exact e1
def spPour : Sp := fun vs H Q _ => ∃ r l gs, ∃ m : Int, vs = [.ref r, .int m] ∧ jugAt r l gs H ∧ 0 < m ∧ m < 1606938044258990275541962092341162602522202993782792835301376 ∧ ∀ H' gs' x, KeepJ r l H H' → jugAt r l gs' H' → 0 ≤ x → x < m → Q (.int x) H'
theorem pour_v {P : Program} {w : World} {K : PySem.W.Frag} {mg : Str → Option Value} {base : Heap} {k : Nat} {f : Addr} {fd : FuncData} {ps : List Str} {CX : CXT} {cls : Str → Addr} {r l1 : Addr} (h : FnOk P w K mg base CX k f fd ps spPour) : FnOk P w K mg base CX k f fd ps (spV (jugB cls r l1) (svTake r)) :=
  h.imp fun vs H Q E ⟨Z, ds, Qd, Ed, g, rp, hh, l, _⟩ => by
    obtain ⟨m, ed, h1, h2, q⟩ := svTake_ex hh
    subst ed
    obtain ⟨x, y, rfl, rx, ry⟩ := rbs2 rp
    have ex : x = .ref r := rx
    have ey : y = .int m := Rb.int (b := jugB cls r l1) (.inl ry)
    subst ex ey
    obtain ⟨gs, hb⟩ := g.g
    exact ⟨r, l1, gs, m, rfl, hb, h1, h2, fun H' gs' x kp b' x0 x1 => l (.int x) H' (.py (.int x)) kp.ex ⟨gs', b'⟩ (.int x) (q x x0 x1)⟩
def spJug (K : PySem.W.Frag) : Sp := fun vs H Q _ => ∃ (a : Addr) (ns : List Int), vs = [.ref a] ∧ SqL K H a (ns.map V.int) ∧ ns.length ≤ 63 ∧ ∀ r l H', (∀ c o, H c = some o → H' c = some o) → (∃ gs, jugAt r l gs H') → Q (.ref r) H'
end VL
set_option Elab.async false
set_option linter.all false
set_option maxRecDepth 100000
set_option maxHeartbeats 4000000
/-! VL45: found.append(left.pop(k)), both lists owned -/
namespace VL
open PySem PySem.Spec PyProof.Rows L2
theorem Rqs.getP {Z : Addr → Prop} {H : Hp} : ∀ {vs : List V} {ds : List PyData} {k : Nat} {p : PyData}, Rqs Z H vs ds → ds[k]? = some p → ∃ v, vs[k]? = some v ∧ Rq Z H v p
  | _, _, _, _, .nil, e => by simp at e
  | _, _, 0, _, .cons r _, e => by simp at e; subst e; exact ⟨_, rfl, r⟩
  | _, _, k + 1, _, .cons _ t, e => by
    obtain ⟨v, h1, h2⟩ := Rqs.getP (k := k) t (by simpa using e)
    exact ⟨v, by simpa using h1, h2⟩
theorem Rqs.erase {Z : Addr → Prop} {H : Hp} : ∀ {vs : List V} {ds : List PyData} (k : Nat), Rqs Z H vs ds → Rqs Z H (vs.eraseIdx k) (ds.eraseIdx k)
  | _, _, _, .nil => .nil
  | _, _, 0, .cons _ t => t
  | _, _, k + 1, .cons r t => .cons r (Rqs.erase k t)
@[simp] def sPopApp (i j : Nat) (te : VT) : VS := fun ρ De => ∃ xs ys, ρ[i]? = some (.own (.py (.list xs))) ∧ ρ[j]? = some (.own (.py (.list ys))) ∧ i ≠ j ∧ xs.length < sizeLine ∧ ys.length ≤ sizeLine ∧
  te ρ (fun d => ∃ k : Nat, d = .py (.int (k : Nat)) ∧ ∃ p, ys[k]? = some p ∧ De.nx ((ρ.set j (.own (.py (.list (ys.eraseIdx k))))).set i (.own (.py (.list (xs ++ [p])))))) (De.ex ρ)
section
variable {X : Cx} {b : Bg} {W : WX} {o o2 e : Expr} {i j : Nat} {te : VT} {apos cpos pos apos2 cpos2 : Pos}
theorem vs_popApp (ho : PE X o (tVar i)) (ho2 : PE X o2 (tVar j)) (he : VE X b W e te)
    (hb1 : attributeBase o "append" X.env (eval o X.env) = eval o X.env := by rfl) (hb2 : attributeBase o2 "pop" X.env (eval o2 X.env) = eval o2 X.env := by rfl)
    (hf1 : ((backTo cpos (starEach [.Call (.Attribute o2 "pop" apos2) [e] [] cpos2] X.env)).all (fun x => !x.1) && (backToKw cpos (keywordEach [] X.env)).all (fun x => x.1.isSome)
      && decide (([.Call (.Attribute o2 "pop" apos2) [e] [] cpos2] : List Expr).length + ([] : List Keyword).length + (if ([] : List Keyword).isEmpty then 0 else 1) < 30)) = true := by rfl)
    (hf2 : ((backTo cpos2 (starEach [e] X.env)).all (fun x => !x.1) && (backToKw cpos2 (keywordEach [] X.env)).all (fun x => x.1.isSome)
      && decide ([e].length + ([] : List Keyword).length + (if ([] : List Keyword).isEmpty then 0 else 1) < 30)) = true := by rfl)
    (hl1 : (apos.endLine == cpos.line) = true := by rfl) (hl2 : (apos2.endLine == cpos2.line) = true := by rfl)
    (hs1 : starEach [.Call (.Attribute o2 "pop" apos2) [e] [] cpos2] X.env = (false, eval (.Call (.Attribute o2 "pop" apos2) [e] [] cpos2) X.env) :: starEach [] X.env := by rfl) (hs2 : starEach [e] X.env = (false, eval e X.env) :: starEach [] X.env := by rfl)
    (hp1 : (backTo cpos (starEach [] X.env)).any (·.1) = false := by rfl) (hp2 : (backTo cpos2 (starEach [] X.env)).any (·.1) = false := by rfl)
    (hsw : swapsWith (.Call (.Attribute o "append" apos) [.Call (.Attribute o2 "pop" apos2) [e] [] cpos2] [] cpos) none pos.line X.env = pure false := by rfl) :
    VSt X b W (.Expr (.Call (.Attribute o "append" apos) [.Call (.Attribute o2 "pop" apos2) [e] [] cpos2] [] cpos) pos) (sPopApp i j te) :=
  ps_mono (ps_expr (pe_bm PySem.F.plainAttrs_list PySem.F.slot_list_append PySem.F.type_list_append mt_append ho (pa_cons (pe_bm PySem.F.plainAttrs_list PySem.F.slot_list_pop PySem.F.type_list_pop mt_popAt ho2 (pa_cons he pa_nil hs2) hb2 hf2 hl2 hs2 hp2) pa_nil hs1) hb1 hf1 hl1 hs1 hp1) hsw) fun Dn σ H ⟨H0, M, Zo, Z, ρ, De, f, ⟨xs, ys, e1, e2, nij, zx, zy, q⟩, l⟩ => by
    obtain ⟨a, h1, h2, h3, axs, h4, h5⟩ := f.v.own i _ e1
    obtain ⟨c, g1, g2, g3, cys, g4, g5⟩ := f.v.own j _ e2
    refine ⟨.ref a, h1, .inl ⟨rfl, axs, SqL.of h4⟩, .ref c, g1, .inl ⟨rfl, cys, SqL.of g4⟩, Zo, Z, ρ, _, _, f.v, q, fun v H1 d x1 gg r1 ⟨k, ed, p, hp, q2⟩ => ?_, l.er f⟩
    subst ed
    obtain rfl := Rb.int (b := b) (Z := Z) (H := H1) (.inl r1)
    have f1 := f.ex x1 gg
    obtain ⟨c', g1', g2', g3', cys', g4', g5'⟩ := f1.v.own j _ e2
    rw [g1] at g1'; cases g1'
    obtain ⟨y, hy, ry⟩ := g5'.getP hp
    have hk : k < ys.length := (List.getElem?_eq_some_iff.mp hp).1
    have hlen : cys'.length = ys.length := g5'.length
    have hsl := sizeLine_eq
    have si : seqIndex? (k : Int) cys'.length = some k := by
      rw [seqIndex_of (by omega) (by omega)]; simp
    refine ⟨c, cys', (k : Int), k, y, rfl, rfl, g4', by omega, by omega, si, hy, ?_⟩
    have up_ : ∀ b2 u, H1 b2 = some u → ¬ Z b2 → upd H1 c (.lst (cys'.eraseIdx k)) b2 = some u := fun b2 u ee n => by
      rw [upd_ne (fun w => n (by rw [w]; exact g2))]
      exact ee
    have f2 := f1.mut (d' := .py (.list (ys.eraseIdx k))) e2 g1 ⟨cys'.eraseIdx k, upd_same, (g5'.erase k).mono (fun _ z => .inl z) up_⟩
    have e1' : (ρ.set j (.own (.py (.list (ys.eraseIdx k)))))[i]? = some (.own (.py (.list xs))) := by rw [List.getElem?_set_ne (Ne.symm nij)]; exact e1
    obtain ⟨a2, i1, i2, i3, axs2, i4, i5⟩ := f2.v.own i _ e1'
    rw [h1] at i1; cases i1
    have ry2 : Rq Z (upd H1 c (.lst (cys'.eraseIdx k))) y p := ry.mono (fun _ z => .inl z) up_
    refine ⟨a, axs2, y, rfl, rfl, i4, by rw [i5.length]; exact zx, l.nx _ _ _ _ (f2.mut (d' := .py (.list (xs ++ [p]))) e1' h1 ⟨axs2 ++ [y], upd_same, (i5.append (.cons ry2 .nil)).mono (fun _ z => .inl z) fun b2 u ee n => ?_⟩) q2⟩
    rw [upd_ne (fun w => n (by rw [w]; exact i2))]
    exact ee
end
end VL
set_option Elab.async false
set_option linter.all false
set_option maxRecDepth 100000
set_option maxHeartbeats 4000000
/-! VL46: list(range(n)), tuple(range(n)) -/
namespace VL
open PySem PySem.Spec PyProof.Rows L2
section
variable {X : Cx} {a e : Expr} {ta : TE} {te : L2.St → Hp → (Int → Int → Hp → Prop) → Prop}
def tTupRgF (te : L2.St → Hp → (Int → Int → Hp → Prop) → Prop) : TE := fun σ H Q => te σ H fun a b H1 => RgOk a b ∧ NewT H1 (rgV a b) Q
theorem pe_tupRgF {p pos : Pos} (hc : X.calm = true) (hg : Gl X "tuple") (hm : X.mg "tuple" = none) (he : PRg X e te) (na : starEach [e] X.env = (false, eval e X.env) :: starEach [] X.env := by rfl) : PE X (.Call (.Name "tuple" p) [e] [] pos) (tTupRgF te) := by
  refine ⟨fun pins s σ H Q I h => ?_⟩
  refine Call_ (ld_blt I hg hm boot_tuple (PyProof.Rows.callWith_type1 (args_cons (thn (he pins s σ H _ I h) fun x s1 ⟨r, a, b, t, u, v, H1, ex, hr, I1, ok, q⟩ => args_nil ?_) na) na))
  subst ex
  obtain ⟨b1, b2, b3, b4, b5⟩ := ok
  refine call_tuple_range (n := (b - a).toNat) (I1.ok.hd hc) hr (small_one b1 b2 b3 b4) (rangeSize_nat a b) b5 fun h' tk acc hk hi => ?_
  have I2 : Inv X pins σ H1 { s1 with heap := h', toks := tk } := I1.kept hk
  have hz : (rgV a b).length ≤ sizeLine := by rw [rgV_length, sizeLine_eq]; omega
  have nt := new_th (tk := tk) I2 hz (vals_rg hi) q
  have e : (tob acc.toList) = ({ cls := .type "tuple", data := .seq acc } : Obj) := by unfold tob; rw [Array.toArray_toList]
  rw [e] at nt
  exact nt
end
theorem rgV_ints (n : Int) : rgV 0 n = ((List.range n.toNat).map fun i : Nat => (0 + (i : Int))).map V.int := by unfold rgV; rw [List.map_map, Int.sub_zero]; rfl
theorem rangeP_ints (n : Nat) : rangeP 0 n = ((List.range n).map fun i : Nat => (0 + (i : Int))).map PyData.int := by rw [rangeP_eq, List.map_map]; rfl
@[simp] def vLstRg (t : VT) : VT := fun ρ Q E => t ρ (fun d => ∃ n : Int, d = .py (.int n) ∧ 0 ≤ n ∧ n ≤ 1000000 ∧ Q (.py (.list (rangeP 0 n.toNat)))) E
@[simp] def vTupRg (t : VT) : VT := fun ρ Q E => t ρ (fun d => ∃ n : Int, d = .py (.int n) ∧ 0 ≤ n ∧ n ≤ 1000000 ∧ Q (.py (.tuple (rangeP 0 n.toNat)))) E
section
variable {X : Cx} {b : Bg} {W : WX} {a : Expr} {t : VT} {p p2 q pos : Pos}
theorem ve_tupRg (hc : X.calm = true) (hg : Gl X "tuple") (hm : X.mg "tuple" = none) (hg2 : Gl X "range") (hm2 : X.mg "range" = none) (ha : VX X b W a t) (na : starEach [a] X.env = (false, eval a X.env) :: starEach [] X.env := by rfl)
    (nb : starEach [.Call (.Name "range" p2) [a] [] q] X.env = (false, eval (.Call (.Name "range" p2) [a] [] q) X.env) :: starEach [] X.env := by rfl) : VE X b W (.Call (.Name "tuple" p) [.Call (.Name "range" p2) [a] [] q] [] pos) (vTupRg t) :=
  pe_mono (pe_tupRgF hc hg hm (prg_1 hg2 hm2 ha na) nb) fun σ H Q ⟨Zo, Z, ρ, Qd, Ed, v, qq, l, m⟩ => ⟨Zo, Z, ρ, _, Ed, v, qq, fun x H1 d x1 g1 r1 ⟨n, ed, n0, n1, q1⟩ => by
    subst ed
    obtain rfl := Rb.int (b := b) (Z := Z) (H := H1) r1
    refine ⟨n, rfl, RgOk.of_le (by omega) (by omega) (by omega) (by omega), fun c o hc ho => ?_⟩
    rw [rgV_ints]
    rw [rangeP_ints] at q1
    refine l _ _ (.py (.tuple _)) (x1.trans (Ex.new hc)) (Bg.new g1 hc) ?_ q1
    exact Rq.tup upd_same ho ((v.ex x1 g1).fresh hc) (.of_ints _), m⟩
end
end VL
set_option Elab.async false
set_option linter.all false
set_option maxRecDepth 100000
set_option maxHeartbeats 4000000
/-! VL47: x = left.pop(k), left owned -/
namespace VL
open PySem PySem.Spec PyProof.Rows L2
@[simp] def sPopSet (i j : Nat) (te : VT) : VS := fun ρ De => ∃ ys, ρ[j]? = some (.own (.py (.list ys))) ∧ i ≠ j ∧ i < ρ.length ∧ ys.length ≤ sizeLine ∧
  te ρ (fun d => ∃ k : Nat, d = .py (.int (k : Nat)) ∧ ∃ p, ys[k]? = some p ∧ De.nx ((ρ.set j (.own (.py (.list (ys.eraseIdx k))))).set i (.shr (.py p)))) (De.ex ρ)
section
variable {X : Cx} {b : Bg} {W : WX} {o2 e : Expr} {i j : Nat} {x : Str} {te : VT} {pos pos' apos2 cpos2 : Pos}
theorem vs_popSet (hN : X.N.Nodup) (hi : X.N[i]? = some x) (hx : Loc X.env.scope x) (ho2 : PE X o2 (tVar j)) (he : VE X b W e te)
    (hb2 : attributeBase o2 "pop" X.env (eval o2 X.env) = eval o2 X.env := by rfl)
    (hf2 : ((backTo cpos2 (starEach [e] X.env)).all (fun x => !x.1) && (backToKw cpos2 (keywordEach [] X.env)).all (fun x => x.1.isSome)
      && decide ([e].length + ([] : List Keyword).length + (if ([] : List Keyword).isEmpty then 0 else 1) < 30)) = true := by rfl)
    (hl2 : (apos2.endLine == cpos2.line) = true := by rfl) (hs2 : starEach [e] X.env = (false, eval e X.env) :: starEach [] X.env := by rfl) (hp2 : (backTo cpos2 (starEach [] X.env)).any (·.1) = false := by rfl)
    (hs : swapsWith (.Call (.Attribute o2 "pop" apos2) [e] [] cpos2) (some (.Name x pos')) pos.line X.env = pure false := by rfl)
    (hf : X.fn x = true ∨ X.env.scope.names.lookup x = some .local := by first | exact .inl rfl | exact .inr rfl | assumption) :
    VSt X b W (.Assign [.Name x pos'] (.Call (.Attribute o2 "pop" apos2) [e] [] cpos2) pos) (sPopSet i j te) :=
  ps_mono (ps_set hN hi hx (pe_bm PySem.F.plainAttrs_list PySem.F.slot_list_pop PySem.F.type_list_pop mt_popAt ho2 (pa_cons he pa_nil hs2) hb2 hf2 hl2 hs2 hp2) hs hf) fun Dn σ H ⟨H0, M, Zo, Z, ρ, De, f, ⟨ys, e2, nij, hil, zy, q⟩, l⟩ => by
    obtain ⟨c, g1, g2, g3, cys, g4, g5⟩ := f.v.own j _ e2
    refine ⟨.ref c, g1, .inl ⟨rfl, cys, SqL.of g4⟩, Zo, Z, ρ, _, _, f.v, q, fun v H1 d x1 gg r1 ⟨k, ed, p, hp, q2⟩ => ?_, l.er f⟩
    subst ed
    obtain rfl := Rb.int (b := b) (Z := Z) (H := H1) (.inl r1)
    have f1 := f.ex x1 gg
    obtain ⟨c', g1', g2', g3', cys', g4', g5'⟩ := f1.v.own j _ e2
    rw [g1] at g1'; cases g1'
    obtain ⟨y, hy, ry⟩ := g5'.getP hp
    have hk : k < ys.length := (List.getElem?_eq_some_iff.mp hp).1
    have hlen : cys'.length = ys.length := g5'.length
    have hsl := sizeLine_eq
    have si : seqIndex? (k : Int) cys'.length = some k := by
      rw [seqIndex_of (by omega) (by omega)]; simp
    refine ⟨c, cys', (k : Int), k, y, rfl, rfl, g4', by omega, by omega, si, hy, ?_⟩
    have up_ : ∀ b2 u, H1 b2 = some u → ¬ Z b2 → upd H1 c (.lst (cys'.eraseIdx k)) b2 = some u := fun b2 u ee n => by
      rw [upd_ne (fun w => n (by rw [w]; exact g2))]
      exact ee
    have f2 := f1.mut (d' := .py (.list (ys.eraseIdx k))) e2 g1 ⟨cys'.eraseIdx k, upd_same, (g5'.erase k).mono (fun _ z => .inl z) up_⟩
    have ry2 : Rq Z (upd H1 c (.lst (cys'.eraseIdx k))) y p := ry.mono (fun _ z => .inl z) up_
    exact l.nx _ _ _ _ (f2.set (by rw [List.length_set]; exact hil) (d := .py p) ry2) q2
end
end VL
set_option Elab.async false
set_option linter.all false
set_option maxRecDepth 100000
set_option maxHeartbeats 4000000
/-! VL48: xs.insert(i, x), xs owned, i not below 0 -/
namespace VL
open PySem PySem.Spec PyProof.Rows L2
@[simp] def gIns : List PyData → List D → (D → List PyData → Prop) → Prop
  | p, [.py (.int i), .py x], Q => p.length < sizeLine ∧ 0 ≤ i ∧ i < 1000000000 ∧ Q (.py .none) (p.take i.toNat ++ [x] ++ p.drop i.toNat)
  | _, _, _ => False
theorem rd_ins {b : Bg} : MutD b (fun x vs H Q => ∃ (l : Addr) (xs : List V) (i : Int) (y : V), x = .ref l ∧ vs = [.int i, y] ∧ H l = some (.lst xs) ∧ xs.length < sizeLine ∧ 0 ≤ i ∧ i < 2 ^ 63 ∧
    Q .non (upd H l (.lst (xs.take i.toNat ++ [y] ++ xs.drop i.toNat)))) gIns := by
  intro Z H a xs vs p ds Q Qd h rx rv g k
  match ds, g, rv with
  | [.py (.int i), .py x], ⟨hl, h0, h1, q⟩, .cons (v := u) ru (.cons (v := v) rv .nil) =>
    have eu : u = .int i := Rb.int (b := b) (Z := Z) (H := H) (.inl ru)
    subst eu
    exact ⟨a, xs, i, v, rfl, rfl, h, by rw [rx.length]; exact hl, h0, by omega, k _ _ _ (.py .none) (((rx.take _).append (.cons rv .nil)).append (rx.drop _)) (Rq.non : Rq Z H .non .none) q⟩
section
variable {X : Cx} {b : Bg} {W : WX} {o e e2 : Expr} {ta : VA} {i : Nat} {apos cpos pos : Pos}
theorem vs_ins (ho : PE X o (tVar i)) (ha : VAs X b W [e, e2] ta) (hbase : attributeBase o "insert" X.env (eval o X.env) = eval o X.env := by rfl)
    (hfew : ((backTo cpos (starEach [e, e2] X.env)).all (fun x => !x.1) && (backToKw cpos (keywordEach [] X.env)).all (fun x => x.1.isSome)
      && decide ([e, e2].length + ([] : List Keyword).length + (if ([] : List Keyword).isEmpty then 0 else 1) < 30)) = true := by rfl)
    (hline : (apos.endLine == cpos.line) = true := by rfl) (hs : starEach [e, e2] X.env = (false, eval e X.env) :: starEach [e2] X.env := by rfl) (hplain : (backTo cpos (starEach [e2] X.env)).any (·.1) = false := by rfl)
    (hsw : swapsWith (.Call (.Attribute o "insert" apos) [e, e2] [] cpos) none pos.line X.env = pure false := by rfl) :
    VSt X b W (.Expr (.Call (.Attribute o "insert" apos) [e, e2] [] cpos) pos) (sMut i gIns ta) :=
  vs_mut PySem.F.slot_list_insert PySem.F.type_list_insert mt_insert rd_ins ho ha hbase hfew hline hs hplain hsw
end
end VL
set_option Elab.async false
set_option linter.all false
set_option maxRecDepth 100000
set_option maxHeartbeats 4000000
/-! VL49: xs.extend(ys), xs owned, ys a list -/
namespace VL
open PySem PySem.Spec PyProof.Rows L2
@[simp] def gExt : List PyData → List D → (D → List PyData → Prop) → Prop
  | p, [.py (.list z)], Q => p.length + z.length ≤ sizeLine ∧ Q (.py .none) (p ++ z)
  | _, _, _ => False
theorem rd_ext {b : Bg} : MutD b rExtend gExt := by
  intro Z H a xs vs p ds Q Qd h rx rv g k
  match ds, g, rv with
  | [.py (.list z)], ⟨hl, q⟩, .cons (v := u) ru .nil =>
    have ru' : Rq Z H u (.list z) := ru
    cases ru' with
    | lst hb nz rs => exact ⟨a, _, xs, _, rfl, rfl, h, hb, by rw [rx.length, rs.length]; exact hl, k _ _ _ (.py .none) (rx.append rs) (Rq.non : Rq Z H .non .none) q⟩
section
variable {X : Cx} {b : Bg} {W : WX} {o e : Expr} {ta : VA} {i : Nat} {apos cpos pos : Pos}
theorem vs_ext (ho : PE X o (tVar i)) (ha : VAs X b W [e] ta) (hbase : attributeBase o "extend" X.env (eval o X.env) = eval o X.env := by rfl)
    (hfew : ((backTo cpos (starEach [e] X.env)).all (fun x => !x.1) && (backToKw cpos (keywordEach [] X.env)).all (fun x => x.1.isSome)
      && decide ([e].length + ([] : List Keyword).length + (if ([] : List Keyword).isEmpty then 0 else 1) < 30)) = true := by rfl)
    (hline : (apos.endLine == cpos.line) = true := by rfl) (hs : starEach [e] X.env = (false, eval e X.env) :: starEach [] X.env := by rfl) (hplain : (backTo cpos (starEach [] X.env)).any (·.1) = false := by rfl)
    (hsw : swapsWith (.Call (.Attribute o "extend" apos) [e] [] cpos) none pos.line X.env = pure false := by rfl) :
    VSt X b W (.Expr (.Call (.Attribute o "extend" apos) [e] [] cpos) pos) (sMut i gExt ta) :=
  vs_mut PySem.F.slot_list_extend PySem.F.type_list_extend mt_extend rd_ext ho ha hbase hfew hline hs hplain hsw
end
end VL
set_option Elab.async false
set_option linter.all false
set_option maxRecDepth 100000
set_option maxHeartbeats 4000000
/-! VL50: *e among the items of a display or the arguments of a call -/
namespace VL
open PySem PySem.Spec PyProof.Rows L2 StX
@[simp] def vStar (t : VT) (u : VA) : VA := fun ρ Q E => t ρ (fun d => ∃ xs, (d = .py (.tuple xs) ∨ d = .py (.list xs)) ∧ u ρ (fun ds => Q (xs.map D.py ++ ds)) E) E
theorem Rps.app {b : Bg} {Z : Addr → Prop} {H : Hp} : ∀ {u : List V} {d : List D} {v : List V} {e : List D}, Rps b Z H u d → Rps b Z H v e → Rps b Z H (u ++ v) (d ++ e)
  | _, _, _, _, .nil, k => k
  | _, _, _, _, .cons r s, k => .cons r (s.app k)
section
variable {X : Cx} {b : Bg} {W : WX} {e : Expr} {es : List Expr} {t : VT} {u : VA} {p : Pos}
theorem va_star (h : VE X b W e t) (k : VAs X b W es u) (hs : starEach (.Starred e p :: es) X.env = (true, eval e X.env) :: starEach es X.env := by rfl) : VAs X b W (.Starred e p :: es) (vStar t u) :=
  pa_mono (pa_star h k hs) fun σ H Q ⟨Zo, Z, ρ, Qd, Ed, v, q, l, m⟩ => ⟨Zo, Z, ρ, _, Ed, v, q, fun x H1 d x1 g1 r1 ⟨xs, hd, q1⟩ => by
    have v1 := v.ex x1 g1
    rcases hd with rfl | rfl
    · have r1' : Rq Z H1 x (.tuple xs) := r1
      cases r1' with
      | tup ha da na qa =>
        exact ⟨_, _, rfl, .inl (SqT.th ha), Zo, Z, ρ, _, Ed, v1, q1, fun ys H2 ds x2 g2 r2 q2 => l _ H2 _ (x1.trans x2) g2 (Rps.app (v1.rqs x2 qa).to r2) q2, fun c y H2 er x2 g2 r2 q2 => m c y H2 er (x1.trans x2) g2 r2 q2⟩
    · have r1' : Rq Z H1 x (.list xs) := r1
      cases r1' with
      | lst ha na qa =>
        exact ⟨_, _, rfl, .inr (SqL.of ha), Zo, Z, ρ, _, Ed, v1, q1, fun ys H2 ds x2 g2 r2 q2 => l _ H2 _ (x1.trans x2) g2 (Rps.app (v1.rqs x2 qa).to r2) q2, fun c y H2 er x2 g2 r2 q2 => m c y H2 er (x1.trans x2) g2 r2 q2⟩, m⟩
end
end VL
set_option Elab.async false
set_option linter.all false
set_option maxRecDepth 100000
set_option maxHeartbeats 4000000
/-! VL51: sorted of a list of tuples of ints, in the order of tuples -/
namespace VL
open PySem PySem.Spec PyProof.Rows L2
def lexL : List Int → List Int → Bool
  | _, [] => false
  | [], _ :: _ => true
  | x :: xs, y :: ys => if x = y then lexL xs ys else decide (x < y)
theorem lexL_asym : ∀ x y, lexL x y = true → lexL y x = false
  | [], [], h => by simp [lexL] at h
  | _ :: _, [], h => by simp [lexL] at h
  | [], _ :: _, _ => rfl
  | x :: xs, y :: ys, h => by
    unfold lexL at h ⊢
    by_cases e : x = y
    · rw [if_pos e] at h; rw [if_pos e.symm]; exact lexL_asym xs ys h
    · rw [if_neg e] at h; rw [if_neg (Ne.symm e)]; simp at h ⊢; omega
theorem lexL_tr : ∀ x y z, lexL y x = false → lexL z y = false → lexL z x = false
  | [], y, z, h1, h2 => by cases z <;> rfl
  | x :: xs, [], z, h1, h2 => by simp [lexL] at h1
  | x :: xs, y :: ys, [], h1, h2 => by simp [lexL] at h2
  | x :: xs, y :: ys, z :: zs, h1, h2 => by
    unfold lexL at h1 h2 ⊢
    by_cases e1 : y = x
    · subst e1
      rw [if_pos rfl] at h1
      by_cases e2 : z = y
      · subst e2
        rw [if_pos rfl] at h2 ⊢
        exact lexL_tr xs ys zs h1 h2
      · rw [if_neg e2] at h2 ⊢; exact h2
    · rw [if_neg e1] at h1
      by_cases e2 : z = y
      · subst e2
        rw [if_neg e1]; exact h1
      · rw [if_neg e2] at h2
        have a : ¬ y < x := by simpa using h1
        have b : ¬ z < y := by simpa using h2
        rw [if_neg (by omega)]
        exact decide_eq_false (by omega)
theorem lexL_tot : ∀ x y, lexL x y = false → lexL y x = false → x = y
  | [], [], _, _ => rfl
  | _ :: _, [], _, h => by simp [lexL] at h
  | [], _ :: _, h, _ => by simp [lexL] at h
  | x :: xs, y :: ys, h1, h2 => by
    unfold lexL at h1 h2
    by_cases e : x = y
    · subst e
      rw [if_pos rfl] at h1 h2
      rw [lexL_tot xs ys h1 h2]
    · rw [if_neg e] at h1; rw [if_neg (Ne.symm e)] at h2
      simp at h1 h2; omega
/-! ### over values -/
def sortT (L : List (List Int)) : List (List Int) := L.mergeSort fun a b => !lexL b a
theorem sortT_perm (L : List (List Int)) : (sortT L).Perm L := List.mergeSort_perm _ _
theorem sortT_sorted (L : List (List Int)) : (sortT L).Pairwise fun a b => lexL b a = false := by
  have := List.pairwise_mergeSort (le := fun a b : List Int => !lexL b a) (fun a b c h1 h2 => by
    simp only [Bool.not_eq_true'] at *
    exact lexL_tr _ _ _ h1 h2) (fun a b => by
    cases h : lexL b a with
    | false => rfl
    | true => rw [lexL_asym _ _ h]; rfl) L
  exact this.imp fun h => by simpa using h
theorem lex_perm_eq : ∀ {xs ys : List (List Int)}, xs.Perm ys → xs.Pairwise (fun a b => lexL b a = false) → ys.Pairwise (fun a b => lexL b a = false) → xs = ys
  | [], ys, h, _, _ => h.nil_eq
  | x :: xs, [], h, _, _ => (List.Perm.nil_eq h.symm).symm
  | x :: xs, y :: ys, h, h1, h2 => by
    rw [List.pairwise_cons] at h1 h2
    have e : x = y := by
      have m1 : x ∈ y :: ys := h.mem_iff.mp List.mem_cons_self
      have m2 : y ∈ x :: xs := h.mem_iff.mpr List.mem_cons_self
      rcases List.mem_cons.mp m1 with e | e
      · exact e
      · rcases List.mem_cons.mp m2 with e' | e'
        · exact e'.symm
        · exact lexL_tot _ _ (h2.1 x e) (h1.1 y e')
    subst e
    rw [lex_perm_eq (List.perm_cons _ |>.mp h) h1.2 h2.2]
theorem sortT_eq {L M : List (List Int)} (h : M.Perm L) (h1 : M.Pairwise fun a b => lexL b a = false) : M = sortT L := lex_perm_eq (h.trans (sortT_perm L).symm) h1 (sortT_sorted L)
@[simp] def gSortedT : List D → (D → Prop) → Prop
  | [.py (.list xs)], Q => ∃ L : List (List Int), xs = L.map tI ∧ (∀ l ∈ L, l ≠ []) ∧ Q (.py (.list ((sortT L).map tI)))
  | _, _ => False
theorem keyFn {Z : Addr → Prop} {H : Hp} : ∀ {us : List V} {L : List (List Int)}, Rqs Z H us (L.map tI) → ∃ k : V → List Int, us.map k = L ∧ ∀ u ∈ us, Rq Z H u (tI (k u)) := by
  intro us L h
  classical
  refine ⟨fun u => if hu : ∃ ns, Rq Z H u (tI ns) then hu.choose else [], ?_⟩
  have uniq : ∀ {u : V} {a b : List Int}, Rq Z H u (tI a) → Rq Z H u (tI b) → a = b := fun {u a b} h1 h2 => by
    cases h1 with
    | tup e1 d1 n1 q1 =>
      cases h2 with
      | tup e2 d2 n2 q2 =>
        have e := e1.symm.trans e2
        injection e with e
        injection e with _ e
        injection e with e
        have h1 := q1.ints
        have h2 := q2.ints
        rw [h1, h2] at e
        exact (map_inj fun x y h => by injection h).mp e
  have key : ∀ {us : List V} {L : List (List Int)}, Rqs Z H us (L.map tI) → us.map (fun u => if hu : ∃ ns, Rq Z H u (tI ns) then hu.choose else []) = L ∧ ∀ u ∈ us, ∃ ns, Rq Z H u (tI ns) := by
    intro us
    induction us with
    | nil =>
      intro L h
      cases L with
      | nil => exact ⟨rfl, by simp⟩
      | cons l L => cases h
    | cons u us ih =>
      intro L h
      cases L with
      | nil => cases h
      | cons l L =>
        rw [List.map_cons] at h
        cases h with
        | cons r t =>
          obtain ⟨h1, h2⟩ := ih t
          have hu : ∃ ns, Rq Z H u (tI ns) := ⟨l, r⟩
          refine ⟨?_, fun v hv => ?_⟩
          · rw [List.map_cons, h1, dif_pos hu, uniq hu.choose_spec r]
          · rcases List.mem_cons.mp hv with rfl | hv
            · exact hu
            · exact h2 v hv
  obtain ⟨h1, h2⟩ := key h
  refine ⟨h1, fun u hu => ?_⟩
  have := h2 u hu
  simp only [dif_pos this]
  exact this.choose_spec
end VL
set_option Elab.async false
set_option linter.all false
set_option maxRecDepth 100000
set_option maxHeartbeats 4000000
/-! VL52: defs that show values (repr within a def): called where nothing is being shown -/
namespace VL
open PySem PySem.Spec PyProof.Rows L2
structure FnL (P : Program) (w : World) (K : PySem.W.Frag) (mg : Str → Option Value) (base : Heap) (k : Nat) (f : Addr) (fd : FuncData) (ps : List Str) (sp : Sp) : Prop where
  len : ∀ vs H Q E, sp vs H Q E → vs.length = ps.length
  g : FnG P w K mg base k f fd ps sp
structure CalG (P : Program) (w : World) (K : PySem.W.Frag) (mg : Str → Option Value) (base : Heap) (b : Bg) (k : Nat) (x : Str) (ps : List Str) (S : SV) where
  f : Addr
  fd : FuncData
  F : FnL P w K mg base k f fd ps (spV b S)
  g : mg x = some (.ref f)
  kp : PySem.W.keepIn K (.ref f) = true
  bd : Binds K fd ps []
end VL
set_option Elab.async false
set_option linter.all false
set_option maxRecDepth 100000
set_option maxHeartbeats 4000000
/-! VL53: is True, is not True of bools -/
namespace VL
open PySem PySem.Spec PyProof.Rows L2
@[simp] def gIsB (neg : Bool) : D → D → (D → Prop) → Prop
  | .py (.bool a), .py (.bool b), Q => Q (.py (.bool (neg ^^ decide (a = b))))
  | _, _, _ => False
section
variable {X : Cx} {b : Bg} {W : WX} {e1 e2 : Expr} {t1 t2 : VT} {pos : Pos}
theorem rd_isB : OpD b (RE b) rIsB (gIsB false) := by
  intro Z H x y dx dy Q Qd gd rx ry h k
  match dx, dy, h, rx, ry with
  | .py (.bool a), .py (.bool c), h, rx, ry =>
    have h1 := rx.q
    have h2 := ry.q
    cases h1; cases h2
    exact ⟨a, c, rfl, rfl, k _ H (.py (.bool _)) Ex.refl gd.g (.bl _) (by simpa using h)⟩
theorem rd_notB : OpD b (RE b) rNotB (gIsB true) := by
  intro Z H x y dx dy Q Qd gd rx ry h k
  match dx, dy, h, rx, ry with
  | .py (.bool a), .py (.bool c), h, rx, ry =>
    have h1 := rx.q
    have h2 := ry.q
    cases h1; cases h2
    exact ⟨a, c, rfl, rfl, k _ H (.py (.bool _)) Ex.refl gd.g (.bl _) (by simpa using h)⟩
theorem ve_isB (h1 : VX X b W e1 t1) (h2 : VX X b W e2 t2) : VE X b W (.Compare e1 [.Is] [e2] pos) (vBin (gIsB false) t1 t2) := ve_cmp op_isBl rd_isB h1 h2 (nobehind _ (by decide) (by decide))
theorem vt_notB (h1 : VX X b W e1 t1) (h2 : VX X b W e2 t2) : VTe X b W (.Compare e1 [.IsNot] [e2] pos) (vTst (vBin (gIsB true) t1 t2)) := vt_cmp op_notBl rd_notB h1 h2 (nobehind _ (by decide) (by decide))
end
end VL
set_option Elab.async false
set_option linter.all false
set_option maxRecDepth 100000
set_option maxHeartbeats 4000000
/-! VL54: list(text) -/
namespace VL
open PySem PySem.Spec PyProof.Rows L2
@[simp] def gListA : List D → (D → Prop) → Prop
  | [.py (.list xs)], Q => Q (.py (.list xs))
  | [.py (.tuple xs)], Q => Q (.py (.list xs))
  | [.py (.str z)], Q => z.length ≤ sizeLine ∧ Q (.py (.list (signsD z)))
  | _, _ => False
end VL
set_option Elab.async false
set_option linter.all false
set_option maxRecDepth 100000
set_option maxHeartbeats 4000000
/-! VL55: () * k -/
namespace VL
open PySem PySem.Spec PyProof.Rows L2
open AutoSeq1 (wpAny_loadPart')
section
variable {X : Cx} {b : Bg} {W : WX} {e1 e2 : Expr} {t1 t2 : VT} {pos : Pos}
/-- .. of a tuple that may be empty -/
@[simp] def gMulT : D → D → (D → Prop) → Prop
  | .py (.tuple xs), .py (.int k), Q => (0 ≤ k ∧ 2 ≤ k ∧ k ≤ 1000 ∧ xs.length ≤ 1000) ∧ Q (.py (.tuple (List.replicate k.toNat xs).flatten))
  | _, _, _ => False
end
end VL
set_option Elab.async false
set_option linter.all false
set_option maxRecDepth 100000
set_option maxHeartbeats 4000000
/-! VL56: a sign in a text -/
namespace VL
open PySem PySem.Spec PyProof.Rows L2 HT
open Builtin.Str in
theorem occ_full (z : Str) (c k lim : Nat) (st : Array Nat × Nat) (h2 : ¬ st.1.size < lim) : StrLaws.occBody z ⟨#[c]⟩ z.length lim k st = pure (ForInStep.yield (st.1, st.2)) := by
  unfold StrLaws.occBody
  rw [if_neg (fun q => h2 q.1.1.1)]
theorem occ_one (z : Str) (c : Nat) : ∀ (n k free : Nat) (acc : Array Nat), free ≤ k → k + n = z.length + 1 →
    (0 < (forIn (List.range' k n) (acc, free) (StrLaws.occBody z ⟨#[c]⟩ z.length 1)).run.fst.size ↔ (0 < acc.size ∨ c ∈ (sl z).drop k))
  | 0, k, free, acc, h1, h3 => by
    have : (sl z).drop k = [] := List.drop_eq_nil_of_le (by rw [slen]; omega)
    rw [this]; simp
  | n + 1, k, free, acc, h1, h3 => by
    rw [List.range'_succ, List.forIn_cons]
    by_cases ha : acc.size < 1
    · rw [occ_step z c k _ (acc, free) h1 (by show acc.size < _; omega)]
      by_cases hk : k < z.length
      · have hk' : k < (sl z).length := by rw [slen]; exact hk
        rw [List.drop_eq_getElem_cons hk', List.getElem?_eq_getElem hk']
        by_cases hc : (sl z)[k] = c
        · rw [if_pos (by rw [hc])]
          have := occ_one z c n (k + 1) (k + 1) (acc.push k) (by omega) (by omega)
          simp only [pure_bind]
          rw [this, Array.size_push]
          simp [hc]
        · rw [if_neg (by simpa using hc)]
          have := occ_one z c n (k + 1) free acc (by omega) (by omega)
          simp only [pure_bind]
          rw [this]
          have hc' : ¬ c = (sl z)[k] := fun e => hc e.symm
          have hm : (c ∈ (sl z)[k] :: (sl z).drop (k + 1)) ↔ c ∈ (sl z).drop (k + 1) := by
            rw [List.mem_cons]; exact ⟨fun h => h.resolve_left hc', .inr⟩
          rw [hm]
      · have e : (sl z).drop k = [] := List.drop_eq_nil_of_le (by rw [slen]; omega)
        rw [if_neg (by rw [List.getElem?_eq_none (by rw [slen]; omega)]; simp), e]
        have := occ_one z c n (k + 1) free acc (by omega) (by omega)
        have e2 : (sl z).drop (k + 1) = [] := List.drop_eq_nil_of_le (by rw [slen]; omega)
        rw [e2] at this
        simp only [pure_bind]
        exact this
    · rw [occ_full z c k 1 (acc, free) ha]
      have := occ_one z c n (k + 1) free acc (by omega) (by omega)
      simp only [pure_bind]
      rw [this]
      have : 0 < acc.size := by omega
      simp [this]
theorem contains_sign (z : Str) (c : Nat) : Txt.contains z (mkS [c]) = decide (c ∈ sl z) := by
  unfold Txt.contains
  have h := occ_one z c (z.length + 1 - 0) 0 0 #[] (by omega) (by omega)
  rw [StrLaws.occ_eq]
  have h' : 0 < (forIn (List.range' 0 (z.length + 1 - 0)) (#[], 0) (StrLaws.occBody z (mkS [c]) z.length 1)).run.fst.size ↔ c ∈ sl z := by
    refine h.trans ?_
    simp
  rw [Bool.eq_iff_iff, decide_eq_true_eq, ← h']
  generalize (forIn (List.range' 0 (z.length + 1 - 0)) (#[], 0) (StrLaws.occBody z (mkS [c]) z.length 1)).run.fst = A
  obtain ⟨A⟩ := A
  cases A <;> simp
@[simp] theorem contains_mkS (l : List Nat) (c : Nat) : Txt.contains (mkS l) (mkS [c]) = decide (c ∈ l) := by rw [contains_sign, sl_mkS]
end VL
set_option Elab.async false
set_option linter.all false
set_option maxRecDepth 100000
set_option maxHeartbeats 4000000
/-! VL57: x or y, where x is a text -/
namespace VL
open PySem PySem.Spec PyProof.Rows L2 HT
variable {X : Cx} {b : Bg} {W : WX} {e1 e2 : Expr} {es : List Expr} {pos : Pos} {t1 t2 : VT}
@[simp] def vOrS (ta tb : VT) : VT := fun ρ Q E => ta ρ (fun x => ∃ z : Str, x = .py (.str z) ∧ z.length ≤ 16777214 ∧ if z.length = 0 then tb ρ Q E else Q (.py (.str z))) E
end VL
set_option Elab.async false
set_option linter.all false
set_option maxRecDepth 100000
set_option maxHeartbeats 4000000
/-! VL58: a background with tables of code objects (for defs that make lambdas) -/
namespace VL
open PySem PySem.Spec PyProof.Rows L2
end VL
set_option Elab.async false
set_option linter.all false
set_option maxRecDepth 100000
set_option maxHeartbeats 4000000
/-! VL59: a lambda without parameters is made; it is called where it was handed to -/
namespace VL
open PySem PySem.Spec PyProof.Rows L2
open LamX (CodeO Tabs TabS TabB LamS lamEnv lamCx)
end VL
set_option Elab.async false
set_option linter.all false
set_option maxRecDepth 100000
set_option maxHeartbeats 4000000
/-! VL60: told(lambda: ..): the def tries what it got and tells the result or the error -/
namespace VL
open PySem PySem.Spec PyProof.Rows L2
open LamX (CodeO Tabs TabS TabB LamS lamEnv lamCx)
/-- what is told of an error -/
def toldE (names : List Str) (th : Addr → Option Addr → Er → VS) (tr : VS) (er : Er) (Q : D → Prop) : Prop := er.n ∈ names ∧ errSub er.n "LineError" = true ∧
  ∀ f a d, th a d er [.shr (.raw f), .own (.py (.list [])), .shr (.err a d er.n er.fs)] (afterS 2 { nx := fun ρ => tr ρ (fin Q noE), rt := Q, bk := fun _ => False, ct := fun _ => False, ex := fun _ _ => False })
@[simp] def vTold (names : List Str) (th : Addr → Option Addr → Er → VS) (tr : VS) (te : VT) : VT := fun ρ Q E => te ρ (fun d => ∃ p, d = .py p ∧ Q (.py (.tuple [.str "result", p]))) (fun er => toldE names th tr er Q)
end VL
set_option Elab.async false
set_option linter.all false
set_option maxRecDepth 100000
set_option maxHeartbeats 4000000
/-! VL61: the law's end with tables of code objects -/
namespace VL
open PySem PySem.Spec PyProof.Rows L2
end VL
set_option Elab.async false
set_option linter.all false
set_option maxRecDepth 100000
set_option maxHeartbeats 4000000
/-! VL62: defs that make lambdas; the def that is given them, as a promise -/
namespace VL
open PySem PySem.Spec PyProof.Rows L2
open LamX (LamS lamEnv lamCx)
/-! ### the code object of a def -/
end VL
set_option Elab.async false
set_option linter.all false
set_option maxRecDepth 100000
set_option maxHeartbeats 4000000
/-! VL63: the law's head where the law makes lambdas; the jug as a background with tables -/
namespace VL
open PySem PySem.Spec PyProof.Rows L2
/-! ### what is never reached -/
@[simp] def vNo : VT := fun _ _ _ => False
@[simp] def sNo : VS := fun _ _ => False
end VL
set_option Elab.async false
set_option linter.all false
set_option maxRecDepth 100000
set_option maxHeartbeats 4000000
/-! VL64: sorted(set(t)), t a tuple of ints -/
namespace VL
open PySem PySem.Spec PyProof.Rows L2
section
variable {X : Cx}
def tSortSet (K : PySem.W.Frag) (ta : TE) : TE := fun σ H Q => ta σ H fun x H1 => ∃ (l : Addr) (ns : List Int), x = V.ref l ∧ SqT K H1 l (ns.map V.int) ∧ ns.length < 63 ∧ ∀ (ks : List Int) (p : Addr), ks.Pairwise (· < ·) → (∀ j, j ∈ ks ↔ j ∈ ns) → H1 p = none → Q (.ref p) (upd H1 p (.lst (ks.map V.int)))
theorem pe_sortSet {a : Expr} {ta : TE} {p p2 q pos : Pos} (hc : X.calm = true) (hg : Gl X "sorted") (hm : X.mg "sorted" = none) (hg2 : Gl X "set") (hm2 : X.mg "set" = none) (ha : PE X a ta)
    (na : starEach [a] X.env = (false, eval a X.env) :: starEach [] X.env := by rfl) : PE X (.Call (.Name "sorted" p) [.Call (.Name "set" p2) [a] [] q] [] pos) (tSortSet X.K ta) := by
  refine ⟨fun pins s σ H Q I h => ?_⟩
  refine Call_ (ld_blt I hg hm bb_sorted ?_)
  refine PyProof.Rows.callWith_builtin1 (PyProof.Rows.args_cons ?_ rfl) rfl rfl
  refine Call_ (ld_blt I hg2 hm2 PyProof.Rows.boot_set ?_)
  refine PyProof.Rows.callWith_type1 (PyProof.Rows.args_cons (thn (ha.run pins s σ H _ I h) fun v s1 ⟨x, H1, I1, r1, q1⟩ => PyProof.Rows.args_nil ?_) na) na rfl
  obtain ⟨l, ns, rfl, hq, h1, q1⟩ := q1
  cases r1
  obtain ⟨its, r, pl, hz⟩ := I1.tuple hq
  refine call_set_tupI (P := X.prog) ns (I1.ok.hd hc) pl (by simpa using r.ints) (by unfold scanBound; omega) fun h' tk c hS hcn hk => ?_
  refine PyProof.Rows.args_nil ?_
  have I2 : Inv X pins σ H1 { s1 with heap := h', toks := tk } := I1.kept hk
  have R : SetR X.w ({ s1 with heap := h', toks := tk } : Shared).heap s1.heap.objs.size (fun j => decide (j ∈ ns)) c := hS
  generalize ({ s1 with heap := h', toks := tk } : Shared) = s3 at I2 R ⊢
  refine sorted_set R (I2.ok.hd hc) (by omega) fun s2 p out c2 ks k g o hp hgd hi hs hme hl => ?_
  have fresh : H1 p = none := I2.hok.fresh hp
  have size : (ks.map V.int).length ≤ sizeLine := by rw [List.length_map, szl]; omega
  have J : Inv X pins σ (upd H1 p (.lst (ks.map V.int))) { s3 with heap := s2.heap, gens := s2.gens, drawn := s2.drawn, toks := s2.toks } :=
    I2.call (ch := []) (Un.laid k hp fresh) (I2.hok.laid k hp ⟨size, out.toList, c2, vals_of_ints hi, hgd⟩) (by rw [g]; exact I2.bare) (fun _ z => nomatch z)
  have e : s2 = { s3 with heap := s2.heap, gens := s2.gens, drawn := s2.drawn, toks := s2.toks } := by
    cases s2
    cases s3
    cases o
    rfl
  rw [e]
  exact ⟨.ref p, _, J, rfl, q1 ks p hs (fun j => by rw [hme j]; simp) fresh⟩
end
@[simp] def vSortSet (t : VT) : VT := fun ρ Q E => t ρ (fun d => ∃ xs ns, d = .py (.tuple xs) ∧ allI xs = some ns ∧ ns.length < 63 ∧ ∀ ks : List Int, ks.Pairwise (· < ·) → (∀ j, j ∈ ks ↔ j ∈ ns) → Q (.py (.list (ks.map PyData.int)))) E
theorem ve_sortSet {X : Cx} {b : Bg} {W : WX} {a : Expr} {t : VT} {p p2 q pos : Pos} (hc : X.calm = true) (hg : Gl X "sorted") (hm : X.mg "sorted" = none) (hg2 : Gl X "set") (hm2 : X.mg "set" = none) (ha : VX X b W a t)
    (na : starEach [a] X.env = (false, eval a X.env) :: starEach [] X.env := by rfl) : VE X b W (.Call (.Name "sorted" p) [.Call (.Name "set" p2) [a] [] q] [] pos) (vSortSet t) :=
  pe_mono (pe_sortSet hc hg hm hg2 hm2 ha na) fun σ H Q ⟨Zo, Z, ρ, Qd, Ed, v, q, l, m⟩ => ⟨Zo, Z, ρ, _, Ed, v, q, fun x H1 d x1 g1 r1 ⟨xs, ns, ed, e, hl, q1⟩ => by
    subst ed
    obtain ⟨a, oa, us, rfl, ha, da, na, qa⟩ := r1.tuple
    rw [allI_of e] at qa
    have eu := qa.ints
    subst eu
    exact ⟨a, ns, rfl, SqT.th ha, hl, fun ks p h1 h2 hp => l _ _ (.py (.list (ks.map PyData.int))) (x1.trans (Ex.new hp)) (Bg.new g1 hp) (Rq.lst upd_same ((v.ex x1 g1).fresh hp) (Rqs.of_ints ks)) (q1 ks h1 h2)⟩, m⟩
end VL
set_option Elab.async false
set_option linter.all false
set_option maxRecDepth 100000
set_option maxHeartbeats 4000000
/-! VL65: t * k, k at least 1, of a tuple that is not empty -/
namespace VL
open PySem PySem.Spec PyProof.Rows L2
open AutoSeq1 (wpAny_loadPart')
theorem tuple_mul1 (l : Addr) (items : Array Value) (n : Nat) (dd : Option Addr) (sl : Array (Option Value)) (u : Tok) :
    Meets (Builtin.«tuple.__mul__» ⟨[.ref l, .int 1 u], []⟩) (fun _ R s => s.heap.get? l = some { cls := .type "tuple", dict := dd, data := .seq items n, slots := sl } ∧ R (.ok (.ret (Value.ref l))) s) :=
  .of_wp fun prog w A R s h => by
    obtain ⟨hp, g, d, tk, os⟩ := s
    obtain ⟨hl, h⟩ := h
    have f1 := AutoSeq1.idx_int
    wp_walk using wpAny_loadPart' hl
    exact ⟨_, rfl, h⟩
def rRep1 (K : PySem.W.Frag) : R2 := fun x y H Q => ∃ l xs, x = .ref l ∧ y = .int 1 ∧ SqT K H l xs ∧ Q (.ref l) H
section
variable {X : Cx}
theorem op_rep1 : OpR X (binaryOp .Mult) (rRep1 X.K) := by
  intro pins s σ H x y v u Q I rx ry ⟨l, xs, ex, ey, hT, q⟩
  subst ex ey
  obtain rfl : v = .ref l := rx
  obtain ⟨t, rfl⟩ := ry
  obtain ⟨its, r, ⟨o, ho, hc, n, hd⟩, hs⟩ := I.tuple hT
  obtain ⟨oc, dd, dt, slt⟩ := o
  obtain rfl : oc = .type "tuple" := hc
  obtain rfl : dt = .seq its.toArray n := hd
  have road := tuple_mul1 l its.toArray n dd slt t
  refine wpAny_binaryOp_repeat_ref (U := "int") (T := "tuple") (by decide) ⟨_, ho, rfl⟩ (typeIs_int · 1 t) noFill_tuple_mul F.fills_int_mul F.slot_int_rmul repeat_tuple F.slot_int_index.lookup ?_
  refine call_meets F.slot_int_rmul (typeIs_int s 1 t) F.entry_int_rmul (F.args_int_rmul_2 _ _) (int_rmul_tuple 1 t l _ n dd slt) ⟨ho, rfl, ⟨_, ho, rfl⟩, ?_⟩
  exact call_meets F.slot_tuple_mul ⟨_, ho, rfl⟩ F.entry_tuple_mul (F.args_tuple_mul_2 _ _) road ⟨ho, ⟨.ref l, H, I, rfl, q⟩⟩
end
section
variable {X : Cx} {b : Bg} {W : WX} {e1 e2 : Expr} {t1 t2 : VT} {pos : Pos}
@[simp] def gMulP : D → D → (D → Prop) → Prop
  | .py (.tuple xs), .py (.int k), Q => (xs ≠ [] ∧ 1 ≤ k ∧ k ≤ 1000 ∧ xs.length ≤ 1000) ∧ Q (.py (.tuple (List.replicate k.toNat xs).flatten))
  | _, _, _ => False
theorem rd_mulP : OpD b (RE b) (fun x y H Q => rRepF X.K x y H Q ∨ rRep1 X.K x y H Q) gMulP := by
  intro Z H x y dx dy Q Qd gd rx ry h k
  match dx, dy, h, rx, ry with
  | .py (.tuple xs), .py (.int n), ⟨⟨h0, h1, h2, h3⟩, h⟩, rx, ry =>
    have ey := ry.int
    obtain ⟨a, oa, us, rfl, ha, da, na, qa⟩ := rx.tuple
    by_cases e1 : n = 1
    · subst e1
      have e : (List.replicate (1 : Int).toNat xs).flatten = xs := by simp
      rw [e] at h
      exact .inr ⟨a, us, rfl, ey, SqT.th ha, k _ H (.py (.tuple xs)) Ex.refl gd.g (.tup ha da na qa) h⟩
    · refine .inl ⟨a, n, us, rfl, ey, SqT.th ha, fun e => h0 ?_, by omega, h2, by rw [qa.length]; exact h3, fun p o hp ho => k _ _ (.py (.tuple _)) (Ex.new hp) (gd.new hp) (.tup upd_same ho (gd.fresh hp) ?_) h⟩
      · subst e
        cases qa
        rfl
      · exact (qa.rep n.toNat).up hp
theorem ve_mulP (h1 : VX X b W e1 t1) (h2 : VX X b W e2 t2) : VE X b W (.BinOp e1 .Mult e2 pos) (vBin gMulP t1 t2) := ve_op (OpR.or op_repF op_rep1) rd_mulP h1 h2
end
end VL
set_option Elab.async false
set_option linter.all false
set_option maxRecDepth 100000
set_option maxHeartbeats 4000000
/-! VL66: a caught error handed to a def that asks it -/
namespace VL
open PySem PySem.Spec PyProof.Rows L2
open L2H (PinOk RoomH cxH inv_startH)
abbrev SE := Er → (D → Prop) → Prop
def svE (a : Addr) (d : Option Addr) (er : Er) (S : SE) : SV := fun ds Q _ => ds = [.err a d er.n er.fs] ∧ S er Q
/-- what such a def promises: within a suite, of the error that is handled -/
structure FnE (P : Program) (w : World) (K : PySem.W.Frag) (mg : Str → Option Value) (base : Heap) (b : Bg) (k : Nat) (f : Addr) (fd : FuncData) (ps : List Str) (S : SE) : Prop where
  len : ps.length = 1
  run : ∀ (A : Around) (outer : List Env) (s : Shared) (H : Hp) (args : Args) (Q : VK) (p : Addr × Obj) (d : Option Addr) (er : Er), RoomH k A → A.handled = some (.ref p.1) → (∃ vs : Array Value, p.2.data = .fields vs) → Zc (.ref (b.cls er.n)) d p.2 → PinOk outer H s p →
    Env0 P w K mg base A outer s H → BindsTo s fd args (ps.zip [.ref p.1]) → spV b (svE p.1 d er S) [.ref p.1] H Q (fun _ _ _ => False) → codeAny (model P w) A (.call (.ref f) args) (CR (L2.CX P w) outer P w H s Q (fun _ _ _ => False)) s
/-- a def that asks an error: all that its call wants -/
structure CalE (P : Program) (w : World) (K : PySem.W.Frag) (mg : Str → Option Value) (base : Heap) (b : Bg) (k : Nat) (x : Str) (ps : List Str) (S : SE) where
  f : Addr
  fd : FuncData
  F : FnE P w K mg base b k f fd ps S
  g : mg x = some (.ref f)
  kp : PySem.W.keepIn K (.ref f) = true
  bd : Binds K fd ps []
@[simp] def vCallE (a : Addr) (d : Option Addr) (er : Er) (i : Nat) (S : SE) : VT := fun ρ Q _ => ρ[i]? = some (.shr (.err a d er.n er.fs)) ∧ S er Q
end VL
set_option Elab.async false
set_option linter.all false
set_option maxRecDepth 100000
set_option maxHeartbeats 4000000
/-! VL67: the crank: a list of two numbers and a list -/
namespace VL
open PySem PySem.Spec PyProof.Rows L2
end VL
set_option Elab.async false
set_option linter.all false
set_option maxRecDepth 100000
set_option maxHeartbeats 4000000
/-! VL68: parameters ahead of a star; keyword-only parameters. -/
namespace VL
open PySem PySem.Spec PyProof.Rows L2
/-! ### def f(a, .., *v) -/
@[simp] def svStarN (n : Nat) (S : SV) : SV := fun ds Q E => n ≤ ds.length ∧ ∃ ps, pys (ds.drop n) = some ps ∧ ps.length ≤ sizeLine ∧ S (ds.take n ++ [.py (.tuple ps)]) Q E
/-! ### def f(a, .., *, k=c) -/
structure CalW (P : Program) (w : World) (K : PySem.W.Frag) (mg : Str → Option Value) (base : Heap) (b : Bg) (k : Nat) (x : Str) (ps : List Str) (kn : Str) (dv : PyData) (S : SV) where
  f : Addr
  fd : FuncData
  F : FnOk P w K mg base (L2.CX P w) k f fd (ps ++ [kn]) (spV b S)
  g : mg x = some (.ref f)
  kp : PySem.W.keepIn K (.ref f) = true
  b0 : ∃ v ds, Vals [v] ds ∧ Binds K fd (ps ++ [kn]) ds ∧ ∀ Z H, Rq Z H v dv
  b1 : KBn K fd (ps ++ [kn]) ps.length [kn] (fun us ws => us ++ ws) (fun vs zs => vs ++ zs)
@[simp] def svW (dv : PyData) (S : SV) : SV := fun ds Q E => S (ds ++ [.py dv]) Q E
@[simp] def vCallW (S : SV) (u : VA) (t : VT) : VT := fun ρ Q E => u ρ (fun ds => t ρ (fun d => S (ds ++ [d]) Q E) E) E
end VL
set_option Elab.async false
set_option linter.all false
set_option maxRecDepth 100000
set_option maxHeartbeats 4000000
/-! VL69: text.index(text) -/
namespace VL
open PySem PySem.Spec PyProof.Rows L2
@[simp] def gTIndex : D → List D → (D → Prop) → Prop
  | .py (.str a), [.py (.str b)], Q => ∃ i rest, Builtin.Str.occurrences a b 0 a.length 1 = i :: rest ∧ Q (.py (.int (i : Nat)))
  | _, _, _ => False
/-! ### x is True where x may be None -/
@[simp] def gIsBn : D → D → (D → Prop) → Prop
  | .py (.bool a), .py (.bool b), Q => Q (.py (.bool (decide (a = b))))
  | .py .none, .py (.bool _), Q => Q (.py (.bool false))
  | _, _, _ => False
end VL
set_option Elab.async false
set_option linter.all false
set_option maxRecDepth 100000
set_option maxHeartbeats 4000000
/-! VL70: max, min of a tuple of ints -/
namespace VL
open PySem PySem.Spec PyProof.Rows L2
@[simp] def gMaxT : List D → (D → Prop) → Prop
  | [.py (.tuple xs)], Q => ∃ ns, allI xs = some ns ∧ ns ≠ [] ∧ Q (.py (.int (maxL ns)))
  | _, _ => False
@[simp] def gMinT : List D → (D → Prop) → Prop
  | [.py (.tuple xs)], Q => ∃ ns, allI xs = some ns ∧ ns ≠ [] ∧ Q (.py (.int (minL ns)))
  | _, _ => False
end VL
set_option Elab.async false
set_option linter.all false
set_option maxRecDepth 100000
set_option maxHeartbeats 4000000
/-! VL71: a list comprehension whose items may raise -/
namespace VL
open PySem PySem.Spec PyProof.Rows L2
end VL
namespace VL
open PySem PySem.Spec PyProof.Rows L2
end VL
namespace VL
open PySem PySem.Spec PyProof.Rows L2
end VL
namespace VL
open PySem PySem.Spec PyProof.Rows L2
/-! ### over values -/
@[simp] def lcGoE (g : VTg) (tt : VB) (te : VT) (Q : D → Prop) (E : Er → Prop) : List D → List PyData → VEnv → Prop
  | [], acc, _ => Q (.py (.list acc))
  | d :: ds, acc, ρ => g d ρ fun ρ1 => tt ρ1 (fun k => if k = true then te ρ1 (fun y => ∃ p, y = .py p ∧ acc.length < sizeLine ∧ lcGoE g tt te Q E ds (acc ++ [p]) ρ) E else lcGoE g tt te Q E ds acc ρ) noE
@[simp] def vLcE (vs : List Nat) (ti : VIt) (g : VTg) (tt : VB) (te : VT) : VT := fun ρ Q E => noOwn ρ vs ∧ ti ρ (fun ds => lcGoE g tt te Q E ds [] (wipeE ρ vs)) E
end VL
set_option Elab.async false
set_option linter.all false
set_option maxRecDepth 100000
set_option maxHeartbeats 4000000
/-! VL72: own objects: fields, __init__, methods -/
namespace VL
open PySem PySem.Spec PyProof.Rows L2
/-! ### fields -/
@[simp] def gFld (n f : Str) : D → (D → Prop) → Prop
  | .obj _ m fs, Q => m = n ∧ ∃ p, fs.lookup f = some p ∧ Q (.py p)
  | _, _ => False
/-- the field f is p from now on -/
@[simp] def putFD (f : Str) (p : PyData) : List (Str × PyData) → List (Str × PyData)
  | [] => [(f, p)]
  | (g, x) :: r => if g = f then (g, p) :: r else (g, x) :: putFD f p r
section
variable {X : Cx} {b : Bg} {W : WX} {e o : Expr} {n f : Str} {t : VT} {pos pos' : Pos} {i : Nat}
@[simp] def sFldS (i : Nat) (n f : Str) (t : VT) : VS := fun ρ De => t ρ (fun d => ∃ p a fs, d = .py p ∧ ρ[i]? = some (.own (.obj a n fs)) ∧ fs.length < 1000 ∧ De.nx (ρ.set i (.own (.obj a n (putFD f p fs))))) (De.ex ρ)
end
/-! ### what an __init__ promises -/
abbrev SI := List D → (List (Str × PyData) → Prop) → (Er → Prop) → Prop
def spI (b : Bg) (n : Str) (S : SI) : Sp := fun vs H Q E => ∃ (x dx : Addr) (vs' : List V) (Z : Addr → Prop) (ds : List D) (Qd : List (Str × PyData) → Prop) (Ed : Er → Prop), vs = .ref x :: vs' ∧ H x = some (.ins (b.cls n) dx []) ∧ Gd b Z H ∧ ¬ Z x ∧ Rps b (fun c => Z c ∨ c = x) H vs' ds ∧ S ds Qd Ed ∧
  (∀ H' fs, (∀ a o, H a = some o → ¬ b.B a → a ≠ x → H' a = some o) → b.G H' → Ow b (fun c => Z c ∨ c = x) H' x (.obj x n fs) → Qd fs → Q .non H') ∧
  ∀ c d H' er, (∀ a o, H a = some o → ¬ b.B a → a ≠ x → H' a = some o) → b.G H' → ErRp b Z H' c d er → Ed er → E c d H'
@[simp] def envI (x : Addr) (n : Str) (N : Nat) (ds : List D) : VEnv := .own (.obj x n []) :: envOf (N - 1) ds
@[simp] def finI (x : Addr) (n : Str) (Q : List (Str × PyData) → Prop) (E : Er → Prop) : VEnds := { nx := fun ρ => ∃ fs, ρ[0]? = some (.own (.obj x n fs)) ∧ Q fs, rt := fun _ => False, bk := fun _ => False, ct := fun _ => False, ex := fun _ => E }
/-! ### n(..) -/
structure CalI (P : Program) (w : World) (K : PySem.W.Frag) (mg : Str → Option Value) (base : Heap) (b : Bg) (k : Nat) (n : Str) (ps : List Str) (S : SI) where
  f : Addr
  fd : FuncData
  F : FnOk P w K mg base (L2.CX P w) k f fd ps (spI b n S)
  M : Mk K (b.cls n) f
  g : mg n = some (.ref (b.cls n))
  bd : Binds K fd ps []
structure CalM (P : Program) (w : World) (K : PySem.W.Frag) (mg : Str → Option Value) (base : Heap) (b : Bg) (k : Nat) (n m : Str) (ps : List Str) (S : SV) where
  f : Addr
  fd : FuncData
  F : FnOk P w K mg base (L2.CX P w) k f fd ps (spV b S)
  c : Cls K (b.cls n)
  m : Meth K (b.cls n) m f
  bd : Binds K fd ps []
@[simp] def vMake (n : Str) (S : SI) (u : VA) : VT := fun ρ Q E => u ρ (fun ds => S ds (fun fs => ∀ a, Q (.obj a n fs)) E) E
@[simp] def vMeth (n m : Str) (S : SV) (t : VT) (u : VA) : VT := fun ρ Q E => t ρ (fun d => ∃ a fs, d = .obj a n fs ∧ fs.lookup m = none ∧ u ρ (fun ds => S (d :: ds) Q E) E) E
/-! ### the class's facts, for the join -/
end VL
set_option Elab.async false
set_option linter.all false
set_option maxRecDepth 100000
set_option maxHeartbeats 4000000
/-! VL73: a, b, .. = a list -/
namespace VL
open PySem PySem.Spec PyProof.Rows L2
section
variable {X : Cx} {b : Bg} {pos : Pos}
@[simp] def tgUnl (n : Nat) (u : VTgs) : VTg
  | .py (.list ps), ρ, Q => ps.length = n ∧ u (ps.map D.py) ρ Q
  | _, _, _ => False
end
end VL
set_option Elab.async false
set_option linter.all false
set_option maxRecDepth 100000
set_option maxHeartbeats 4000000
/-! VL74: a dict beside a text -/
namespace PySem
open PySem.Spec PyProof.Rows PySem.SeqAt
open Sem (wp)
end PySem
namespace VL
open PySem PySem.Spec PyProof.Rows L2
section
variable {X : Cx} {b : Bg} {W : WX} {e1 e2 : Expr} {t1 t2 : VT} {pos : Pos}
/-- .. a text on the right; a dict is no text -/
@[simp] def gEqT : D → D → (D → Prop) → Prop
  | .py (.dict _), .py (.str _), Q => Q (.py (.bool false))
  | x, y, Q => gEq x y Q
@[simp] def gNeT : D → D → (D → Prop) → Prop
  | .py (.dict _), .py (.str _), Q => Q (.py (.bool true))
  | x, y, Q => gNe x y Q
end
end VL
set_option Elab.async false
set_option linter.all false
set_option maxRecDepth 100000
set_option maxHeartbeats 4000000
/-! VL75: the cells: a list of a list (that stands still) and two numbers -/
namespace VL
open PySem PySem.Spec PyProof.Rows L2
end VL
set_option Elab.async false
set_option linter.all false
set_option maxRecDepth 100000
set_option maxHeartbeats 4000000
/-! VL76: sorted of a list of texts, any number of them -/
namespace VL
open PySem PySem.Spec PyProof.Rows L2
/-- the order of texts -/
def ltT (a b : Str) : Bool := ltCps a.cps.toList b.cps.toList
def sortSt (L : List Str) : List Str := L.mergeSort fun a b => !ltT b a
@[simp] def gSortedS : List D → (D → Prop) → Prop
  | [.py (.list xs)], Q => ∃ L : List Str, xs = L.map PyData.str ∧ Q (.py (.list ((sortSt L).map PyData.str)))
  | _, _ => False
end VL
set_option Elab.async false
set_option linter.all false
set_option maxRecDepth 100000
set_option maxHeartbeats 4000000
/-! VL77: len(set(l)), l a list of ints -/
namespace VL
open PySem PySem.Spec PyProof.Rows L2
@[simp] def vLenSetL (t : VT) : VT := fun ρ Q E => t ρ (fun d => ∃ xs ns, d = .py (.list xs) ∧ allI xs = some ns ∧ ns.length < 4095 ∧ ∀ ks : List Int, ks.Nodup → (∀ j, j ∈ ks ↔ j ∈ ns) → Q (.py (.int (ks.length : Nat)))) E
end VL
set_option Elab.async false
set_option linter.all false
set_option maxRecDepth 100000
set_option maxHeartbeats 4000000
/-! VL78: list(zip(a, b)), tuple(zip(a, b)) of two lists or of two tuples -/
namespace VL
open PySem PySem.Spec PyProof.Rows L2
/-! ### the walk to its end -/
end VL
set_option Elab.async false
set_option linter.all false
set_option maxRecDepth 100000
set_option maxHeartbeats 4000000
/-! VL79: list(zip(a, b)) over values -/
namespace VL
open PySem PySem.Spec PyProof.Rows L2
/-! ### over values -/
@[simp] def gLstZ : List D → (D → Prop) → Prop
  | [.py (.list xs), .py (.list ys)], Q => xs.length = ys.length ∧ Q (.py (.list (zip2P xs ys)))
  | [.py (.tuple xs), .py (.tuple ys)], Q => xs.length = ys.length ∧ Q (.py (.list (zip2P xs ys)))
  | _, _ => False
end VL
set_option Elab.async false
set_option linter.all false
set_option maxRecDepth 100000
set_option maxHeartbeats 4000000
/-! VL80: a comprehension over a dict that stands still meanwhile -/
namespace VL
open PySem PySem.Spec PyProof.Rows L2
end VL
set_option Elab.async false
set_option linter.all false
set_option maxRecDepth 100000
set_option maxHeartbeats 4000000
/-! VL81: [.. for k, v in d.items()], [.. for k in d], d a shared dict of plain values -/
namespace VL
open PySem PySem.Spec PyProof.Rows L2
@[simp] def leafB : PyData → Bool
  | .list _ => false
  | .tuple _ => false
  | .dict _ => false
  | _ => true
/-- a dict that is locked -/
def dF (ds : List (PyData × PyData)) : Abs where
  R := fun Z H a => ∃ o kvs, H a = some (.frz o (.dK kvs)) ∧ Rqk Z H kvs ds ∧ ∀ p ∈ ds, leafB p.2 = true
  at_ := fun ⟨o, kvs, h, _⟩ => ⟨_, h⟩
  noext := fun ⟨o, kvs, h, _⟩ u hu e => by rw [h] at e; cases e; exact hu
  mono := fun hz hs ha ⟨o, kvs, h, r, l⟩ => ⟨o, kvs, ha _ h, r.mono hz hs, l⟩
def itemsP (ds : List (PyData × PyData)) : List PyData := ds.map fun p => .tuple [p.1, p.2]
@[simp] def iIt (j : Nat) : VIt := fun ρ Q _ => ∃ ds, ρ[j]? = some (.shr (.abs (dF ds))) ∧ Q ((itemsP ds).map D.py)
@[simp] def iKy (j : Nat) : VIt := fun ρ Q _ => ∃ ds, ρ[j]? = some (.shr (.abs (dF ds))) ∧ Q ((ds.map fun p => p.1).map D.py)
section
variable {X : Cx} {b : Bg} {W : WX} {e f : Expr} {j : Nat} {ty : VT} {ap cp tp pos : Pos} {tgs : List Expr} {n0 : Nat} {tg : Expr}
/-- d[k] of the locked dict -/
@[simp] def vDIxF (j : Nat) (ty : VT) : VT := fun ρ Q E => ∃ ds, ρ[j]? = some (.shr (.abs (dF ds))) ∧ ty ρ (fun y => ∃ k kk x, y = .py k ∧ keyOf k = some kk ∧ getD ds kk = some x ∧ Q (.py x)) E
end
end VL
set_option Elab.async false
set_option linter.all false
set_option maxRecDepth 100000
set_option maxHeartbeats 4000000
/-! VL82: a dict is locked while an expression that makes something new is evaluated -/
namespace VL
open PySem PySem.Spec PyProof.Rows L2
@[simp] def flatS : Slot → Slot
  | .shr (.py p) => if leafB p = true then .shr (.py p) else .un
  | .shr (.raw v) => .shr (.raw v)
  | _ => .un
@[simp] def flatE (ds : List (PyData × PyData)) : Nat → VEnv → VEnv
  | _, [] => []
  | 0, _ :: r => .shr (.abs (dF ds)) :: r.map flatS
  | j + 1, s :: r => flatS s :: flatE ds j r
@[simp] def vLock (j : Nat) (t : VT) : VT := fun ρ Q _ => ∃ ds, ρ[j]? = some (.shr (.py (.dict ds))) ∧ (∀ p ∈ ds, leafB p.2 = true) ∧ t (flatE ds j ρ) (fun d => (∃ xs, d = .py (.list xs)) ∧ Q d) noE
end VL
set_option Elab.async false
set_option linter.all false
set_option maxRecDepth 100000
set_option maxHeartbeats 4000000
/-! VL83: two fields set from a pair; a dict of one number; a range that counts down -/
namespace VL
open PySem PySem.Spec PyProof.Rows L2
section
variable {X : Cx} {b : Bg} {W : WX} {e o o2 : Expr} {n f1 f2 : Str} {t : VT} {pos : Pos} {i : Nat}
@[simp] def sFld2 (i : Nat) (n f1 f2 : Str) (t : VT) : VS := fun ρ De => t ρ (fun d => ∃ p1 p2 a fs, d = .py (.tuple [p1, p2]) ∧ ρ[i]? = some (.own (.obj a n fs)) ∧ fs.length + 1 < 1000 ∧ De.nx (ρ.set i (.own (.obj a n (putFD f2 p2 (putFD f1 p1 fs)))))) (De.ex ρ)
end
/-! ### a dict of one number -/
@[simp] def vDI (t : VT) (j : Int) : VT := fun ρ Q E => t ρ (fun d => ∃ i, d = .py (.int i) ∧ Q (.py (.dict [(.int i, .int j)]))) E
/-! ### range(i, j, -1) -/
def rangeD (i : Int) (n : Nat) : List PyData := (List.range n).map fun (k : Nat) => PyData.int (i - k)
@[simp] def asR3 : List D → (List D → Prop) → Prop
  | [.py (.int i), .py (.int j), .py (.int k)], Q => k = -1 ∧ (small62 i ∧ small62 j) ∧ Q ((rangeD i (i - j).toNat).map D.py)
  | _, _ => False
@[simp] def iR3 (t : VA) : VIt := fun ρ Q E => t ρ (fun d => asR3 d Q) E
end VL
set_option Elab.async false
set_option linter.all false
set_option maxRecDepth 100000
set_option maxHeartbeats 4000000
/-! VL84: list(d.values()) -/
namespace VL
open PySem PySem.Spec PyProof.Rows L2
@[simp] def gVals : D → (D → Prop) → Prop
  | .py (.dict ds), Q => Q (.py (.list (ds.map (·.2))))
  | _, _ => False
end VL
set_option Elab.async false
set_option linter.all false
set_option maxRecDepth 100000
set_option maxHeartbeats 4000000
/-! VL85: sorted(d.items()), numbers for keys and values -/
namespace VL
open PySem PySem.Spec PyProof.Rows L2
section
variable {prog : Program} {w : World} {A : Around} {s : Shared} {E : Value → Shared → Prop}
def prV (p : Int × Int) : List Int := [p.1, p.2]
end
/-! ### over values -/
@[simp] def gSrtIt : D → (D → Prop) → Prop
  | .py (.dict ds), Q => ∃ L : List (Int × Int), ds = L.map (fun p => (PyData.int p.1, PyData.int p.2)) ∧ L ≠ [] ∧ Q (.py (.list ((sortT (L.map prV)).map fun l => PyData.tuple (l.map PyData.int))))
  | _, _ => False
end VL
set_option Elab.async false
set_option linter.all false
set_option maxRecDepth 100000
set_option maxHeartbeats 4000000
/-! VL86: list(d.items()), numbers for keys and values -/
namespace VL
open PySem PySem.Spec PyProof.Rows L2
@[simp] def gLstIt : D → (D → Prop) → Prop
  | .py (.dict ds), Q => ∃ L : List (Int × Int), ds = L.map (fun p => (PyData.int p.1, PyData.int p.2)) ∧ Q (.py (.list ((L.map prV).map fun l => PyData.tuple (l.map PyData.int))))
  | _, _ => False
end VL
set_option Elab.async false
set_option linter.all false
set_option maxRecDepth 100000
set_option maxHeartbeats 4000000
/-! VL87: sorted(set(xs)), xs a list of allI0 -/
namespace VL
open PySem PySem.Spec PyProof.Rows L2
section
variable {P : Program} {w : World} {A : Around} {E : Value → Shared → Prop} {s : Shared}
abbrev emptyS (w : World) : Obj := { cls := .type "set", dict := none, data := .set #[] 0 (.fresh 0 0 (!w.params.followText "set-order")) }
end
@[simp] def vSortSetL (t : VT) : VT := fun ρ Q E => t ρ (fun d => ∃ xs ns, d = .py (.list xs) ∧ allI xs = some ns ∧ ns.length < 63 ∧ ∀ ks : List Int, ks.Pairwise (· < ·) → (∀ j, j ∈ ks ↔ j ∈ ns) → Q (.py (.list (ks.map PyData.int)))) E
end VL
set_option Elab.async false
set_option linter.all false
set_option maxRecDepth 100000
set_option maxHeartbeats 4000000
/-! VL88: x in d, x not in d, d a dict -/
namespace VL
open PySem PySem.Spec PyProof.Rows L2
section
variable {X : Cx} {b : Bg} {W : WX} {e1 e2 : Expr} {t1 t2 : VT} {pos : Pos}
@[simp] def gInDk (neg : Bool) : D → D → (D → Prop) → Prop
  | .py k, .py (.dict ds), Q => ∃ kk, VL.keyOf k = some kk ∧ Q (.py (.bool (neg ^^ (getD ds kk).isSome)))
  | _, _, _ => False
end
end VL
set_option Elab.async false
set_option linter.all false
set_option maxRecDepth 100000
set_option maxHeartbeats 4000000
/-! VL89: a def under another global name -/
namespace VL
open PySem PySem.Spec PyProof.Rows L2
end VL
set_option Elab.async false
set_option linter.all false
set_option maxRecDepth 100000
set_option maxHeartbeats 4000000
/-! VL90: zip of any number of tuples of one length, at the machine's level -/
namespace VL
open PySem PySem.Spec PyProof.Rows L2
structure ZD (z TI TO : Addr) (its ls : List Addr) : Prop where
  tiz : TI ≠ z
  toz : TO ≠ z
  tot : TO ≠ TI
  iz : ∀ i ∈ its, i ≠ z
  it : ∀ i ∈ its, i ≠ TI
  io : ∀ i ∈ its, i ≠ TO
  nd : its.Nodup
  lz : ∀ l ∈ ls, l ≠ z
  lo : ∀ l ∈ ls, l ≠ TO
  li : ∀ l ∈ ls, l ∉ its
  len : its.length = ls.length
def ZCol (h : Heap) (ls : List Addr) (cols : List (List Value)) : Prop := cols.length = ls.length ∧ ∀ (j : Nat) (l : Addr) (c : List Value), ls[j]? = some l → cols[j]? = some c → h.IsTuple l c.toArray
section
variable {prog : Program} {w : World} {A : Around} {E : Value → Shared → Prop} {s : Shared} {z TI TO : Addr} {its ls : List Addr} {cols : List (List Value)} {k : Nat}
theorem at3 {j : Nat} {a : Addr} {h : Heap} (D : ZD z TI TO its ls) (hc : ZCol h ls cols) (hk : ∀ c ∈ cols, k < c.length) (ha : its[j]? = some a) : ∃ l c x, ls[j]? = some l ∧ cols[j]? = some c ∧ c[k]? = some x := by
  have h1 : j < its.length := (List.getElem?_eq_some_iff.mp ha).1
  have h2 := D.len
  have h3 := hc.1
  have hcm : cols[j]? = some cols[j] := List.getElem?_eq_getElem (by omega)
  exact ⟨ls[j], cols[j], _, List.getElem?_eq_getElem (by omega), hcm, List.getElem?_eq_getElem (hk _ (List.mem_of_getElem? hcm))⟩
end
end VL
set_option Elab.async false
set_option linter.all false
set_option maxRecDepth 100000
set_option maxHeartbeats 4000000
/-! VL91: zip(e, *e2) as what a comprehension walks -/
namespace VL
open PySem PySem.Spec PyProof.Rows L2
end VL
set_option Elab.async false
set_option linter.all false
set_option maxRecDepth 100000
set_option maxHeartbeats 4000000
/-! VL92: for x in zip(e, *e2), the sources being tuples of one length -/
namespace VL
open PySem PySem.Spec PyProof.Rows L2 StX
section
variable {X : Cx} {b : Bg} {W : WX} {e : Expr} {es : List Expr} {x : Str} {p q pos : Pos}
/-! ### over data -/
def zipNP (m : Nat) (cols : List (List PyData)) : List PyData := (List.range m).map fun i => .tuple (cols.map fun c => c.getD i .none)
@[simp] def asZN (ds : List D) (Q : List D → Prop) : Prop := ∃ (cols : List (List PyData)) (m : Nat), ds = cols.map (fun c => D.py (.tuple c)) ∧ 1 ≤ cols.length ∧ cols.length ≤ 6 ∧ (∀ c ∈ cols, c.length = m) ∧ Q ((zipNP m cols).map D.py)
@[simp] def iZN (t : VA) : VIt := fun ρ Q E => t ρ (fun d => asZN d Q) E
end
end VL
set_option Elab.async false
set_option linter.all false
set_option maxRecDepth 100000
set_option maxHeartbeats 4000000
/-! VL93: list(zip(a, b, c)) of up to six tuples of one length -/
namespace VL
open PySem PySem.Spec PyProof.Rows L2
/-! ### over values -/
@[simp] def gLstZN (ds : List D) (Q : D → Prop) : Prop := ∃ (cols : List (List PyData)) (m : Nat), ds = cols.map (fun c => D.py (.tuple c)) ∧ 1 ≤ cols.length ∧ cols.length ≤ 6 ∧ (∀ c ∈ cols, c.length = m) ∧ Q (.py (.list (zipNP m cols)))
end VL
set_option Elab.async false
set_option linter.all false
set_option maxRecDepth 100000
set_option maxHeartbeats 4000000
/-! VL94: min, max of two texts; a <= b <= c <= d of texts -/
namespace VL
open PySem PySem.Spec PySem.Calls PyProof.Rows L2
@[simp] def gMaxS : List D → (D → Prop) → Prop
  | [.py (.str i), .py (.str j)], Q => Q (.py (.str (if ltT i j then j else i)))
  | _, _ => False
@[simp] def gMinS : List D → (D → Prop) → Prop
  | [.py (.str i), .py (.str j)], Q => Q (.py (.str (if ltT j i then j else i)))
  | _, _ => False
@[simp] def gLeSt : D → D → (D → Prop) → Prop
  | .py (.str i), .py (.str j), Q => Q (.py (.bool (!ltT j i)))
  | _, _, _ => False
/-! ### chains of three comparisons -/
@[simp] def vChain3 (g g' g'' : D → D → (D → Prop) → Prop) (ta tb tc td : VT) : VT := fun ρ Q E => ta ρ (fun x => tb ρ (fun y => g x y fun z => ∃ k, z = .py (.bool k) ∧ if k = true then tc ρ (fun w => g' y w fun z => ∃ k, z = .py (.bool k) ∧ if k = true then td ρ (fun v => g'' w v Q) E else Q (.py (.bool false))) E else Q (.py (.bool false))) E) E
end VL
set_option Elab.async false
set_option linter.all false
set_option maxRecDepth 100000
set_option maxHeartbeats 4000000
/-! VL95: sorted(set(t)), t a tuple of texts, all unlike -/
namespace VL
open PySem PySem.Spec PyProof.Rows L2 PySem.Froz
end VL
set_option Elab.async false
set_option linter.all false
set_option maxRecDepth 100000
set_option maxHeartbeats 4000000
/-! VL96: sorted(set(t)), t a tuple of texts, over values -/
namespace VL
open PySem PySem.Spec PyProof.Rows L2 PySem.Froz
@[simp] def vSortSetX (t : VT) : VT := fun ρ Q E => t ρ (fun d => ∃ ns : List Str, d = .py (.tuple (ns.map PyData.str)) ∧ ns.Nodup ∧ ns.length < 4000 ∧ Q (.py (.list ((sortSt ns).map PyData.str)))) E
end VL
set_option Elab.async false
set_option linter.all false
set_option maxRecDepth 100000
set_option maxHeartbeats 4000000
namespace VL
open PySem PySem.Spec PyProof.Rows L2
/-! ### several targets, some of them items of owned lists -/
section
variable {X : Cx} {b : Bg} {W : WX} {e e1 e2 : Expr} {es : List Expr} {st : Stmt} {t t1 t2 : VT} {u : VA} {pos pos' : Pos} {i : Nat} {x : Str}
/-- an item of an owned list -/
@[simp] def tgSto (i : Nat) (ty : VT) : VTg := fun d ρ Q => ∃ xs, ρ[i]? = some (.own (.py (.list xs))) ∧ ∃ p, d = .py p ∧ ty ρ (fun y => ∃ k, y = .py (.int k) ∧ ∃ ys, setAt xs k p = some ys ∧ Q (ρ.set i (.own (.py (.list ys))))) fun _ => False
/-- t1, t2 = e1, e2 by way of a tuple -/
@[simp] def sParM (n : Nat) (u : VA) (g : VTgs) : VS := fun ρ De => u ρ (fun ds => ds.length = n ∧ g ds ρ De.nx) (De.ex ρ)
/-! ### a list, from an item on, with a step -/
def stepL {α : Type} (xs : List α) (lo st : Int) : List α := (sliceRange (sliceBounds (some lo) none (some st) xs.length).1 (sliceBounds (some lo) none (some st) xs.length).2.1 (sliceBounds (some lo) none (some st) xs.length).2.2).filterMap (xs[·]?)
@[simp] def vStp (t : VT) (tl ts : VO) : VT := fun ρ Q E => t ρ (fun x => tl ρ (fun l => ts ρ (fun k => ∃ xs lo st, x = .py (.list xs) ∧ l = some lo ∧ k = some st ∧ st ≠ 0 ∧ Q (.py (.list (stepL xs lo st)))) E) E) E
end
end VL
set_option Elab.async false
set_option linter.all false
set_option maxRecDepth 100000
set_option maxHeartbeats 4000000
/-! VL98: the stairs of demands: two lists in the fields of an object, changed while it is made -/
namespace VL
open PySem PySem.Spec PyProof.Rows L2
/-! the heap while the object is made -/
end VL
set_option Elab.async false
set_option linter.all false
set_option maxRecDepth 100000
set_option maxHeartbeats 4000000
/-! VL99: sorted of a list of any alike data -/
namespace VL
open PySem PySem.Spec PyProof.Rows L2
/-- the data, sorted -/
def sortD (ds : List PyData) : List PyData := ds.mergeSort (PySem.W.dataLe false id)
@[simp] def gSortedD : List D → (D → Prop) → Prop
  | [.py (.list xs)], Q => PySem.W.AllAlike xs ∧ PySem.W.Sortable xs ∧ (∀ d ∈ xs, d.depth ≤ 40) ∧ Q (.py (.list (sortD xs)))
  | _, _ => False
end VL
set_option Elab.async false
set_option linter.all false
set_option maxRecDepth 100000
set_option maxHeartbeats 4000000
/-! VL100: tuple(zip(a, b)) -/
namespace VL
open PySem PySem.Spec PyProof.Rows L2
/-! ### over values -/
@[simp] def gTupZ : List D → (D → Prop) → Prop
  | [.py (.list xs), .py (.list ys)], Q => xs.length = ys.length ∧ Q (.py (.tuple (zip2P xs ys)))
  | [.py (.tuple xs), .py (.tuple ys)], Q => xs.length = ys.length ∧ Q (.py (.tuple (zip2P xs ys)))
  | _, _ => False
end VL
set_option Elab.async false
set_option linter.all false
set_option maxRecDepth 100000
set_option maxHeartbeats 4000000
/-! VL101: generators: «if» and «for» in a body that yields -/
namespace VL
open PySem PySem.Spec PyProof.Rows L2 GenW
section
variable {prog : Program} {w : World} {A : Around} {R : GenEnd} {Y : Protocol} {n : Nat} {s0 : Shared} {fs : List Frame} {s : Shared} {env : Env}
/-- the end of a turn's body -/
abbrev turns (c' : Code) (f : Flow) : Sem PySem.Fin := match f with
  | .next | .cont => .pure (.again c')
  | .brk => .pure (.done .next)
  | .ret v => .pure (.done (.ret v))
end
section
variable {X : Cx}
/-! ### «if» and «for» that hand out -/
end
end VL
set_option Elab.async false
set_option linter.all false
set_option maxRecDepth 100000
set_option maxHeartbeats 4000000
/-! VL102: readings of a generator's body: the list is what has been handed out -/
namespace VL
open PySem PySem.Spec PyProof.Rows L2 GenW
/-- what is wanted behind a statement: the names' values and what is out -/
structure GEn where
  nx : VEnv → List PyData → Prop
  bk : VEnv → List PyData → Prop
  ct : VEnv → List PyData → Prop
  ex : VEnv → Er → Prop
abbrev VY := VEnv → List PyData → GEn → Prop
section
variable {X : Cx} {b : Bg} {W : WX} {st : Stmt} {rest xs zs body : List Stmt} {t : VS} {g u : VY} {pos yp : Pos}
/-- a statement that hands out nothing -/
@[simp] def yP (t : VS) : VY := fun ρ out De => t ρ { nx := fun ρ' => De.nx ρ' out, rt := fun _ => False, bk := fun ρ' => De.bk ρ' out, ct := fun ρ' => De.ct ρ' out, ex := De.ex }
@[simp] def yNil : VY := fun ρ out De => De.nx ρ out
@[simp] def yThen (g u : VY) : VY := fun ρ out De => g ρ out { De with nx := fun ρ' out' => u ρ' out' De }
@[simp] def yIf (c : VB) (g u : VY) : VY := fun ρ out De => c ρ (fun k => if k = true then g ρ out De else u ρ out De) (De.ex ρ)
@[simp] def yFor (ti : VIt) (tg : VTg) (tb : VY) : VY := fun ρ out De => ti ρ (fun ds => yForGo tg tb ds ρ out De) (De.ex ρ)
where @[simp] yForGo (tg : VTg) (tb : VY) : List D → VEnv → List PyData → GEn → Prop
  | [], ρ, out, De => De.nx ρ out
  | d :: ds, ρ, out, De => tg d ρ fun ρ1 => tb ρ1 out { De with nx := fun ρ2 out2 => yForGo tg tb ds ρ2 out2 De, ct := fun ρ2 out2 => yForGo tg tb ds ρ2 out2 De, bk := De.nx }
@[simp] def yYl (t : VT) : VY := fun ρ out De => out.length < sizeLine ∧ t ρ (fun d => ∃ p, d = .py p ∧ De.nx ρ (out ++ [p])) (De.ex ρ)
end
end VL
set_option Elab.async false
set_option linter.all false
set_option maxRecDepth 100000
set_option maxHeartbeats 4000000
/-! VL103: a generator def's promise, by values; list(g(..)) -/
namespace VL
open PySem PySem.Spec PyProof.Rows L2 GenW
/-- the arguments, what is wanted of all that is handed out, the errors -/
abbrev SY := List D → (List PyData → Prop) → (Er → Prop) → Prop
def spY (b : Bg) (S : SY) : SpG := fun vs H Q E => ∃ Z ds Qd Ed, Gd b Z H ∧ Rps b Z H vs ds ∧ S ds Qd Ed ∧ (∀ ys H' out, Ex b H H' → b.G H' → Rqs Z H' ys out → Qd out → Q ys H') ∧ ∀ c x H' er, Ex b H H' → b.G H' → ErRp b Z H' c x er → Ed er → E c x H'
@[simp] def finY (Q : List PyData → Prop) (E : Er → Prop) : GEn := { nx := fun _ out => Q out, bk := fun _ _ => False, ct := fun _ _ => False, ex := fun _ => E }
/-! ### list(g(..)) -/
structure CalY (P : Program) (w : World) (K : PySem.W.Frag) (mg : Str → Option Value) (base : Heap) (b : Bg) (k : Nat) (x : Str) (ps : List Str) (S : SY) where
  f : Addr
  fd : FuncData
  F : GFn P w K mg base k f fd ps (spY b S)
  g : mg x = some (.ref f)
  kp : PySem.W.keepIn K (.ref f) = true
  bd : Binds K fd ps []
@[simp] def vListY (ns : Str → Prop) (S : SY) (u : VA) : VT := fun ρ Q E => u ρ (fun ds => S ds (fun out => Q (.py (.list out))) fun er => ns er.n ∧ E er) E
end VL
set_option Elab.async false
set_option linter.all false
set_option maxRecDepth 100000
set_option maxHeartbeats 4000000
/-! VL104: a run that is held where the sleeping generators can't be woken wakes none of them: they stay what they are -/
namespace VL
open PySem
open Sem (wp)
end VL
set_option Elab.async false
set_option linter.all false
set_option maxRecDepth 100000
set_option maxHeartbeats 4000000
/-! VL105: a generator that sleeps while its consumer runs any code: contexts, protocol, plain statements, yield -/
namespace VL
open PySem PySem.Spec PyProof.Rows L2 GenW
/-! ### the heap's first objects -/
def pre (n : Nat) (h : Heap) : Heap := ⟨h.objs.extract 0 n, h.life⟩
def cut (n : Nat) (s : Shared) : Shared := { s with heap := pre n s.heap }
/-! ### contexts -/
/-- behind a call that let an exception out; what is pinned stands in the ground -/
def CXP (P : Program) (w : World) (outer : List Env) (H : Hp) (s : Shared) (E : XK) (pn : List (Addr × Obj)) (u : Value) (s' : Shared) : Prop :=
  ∃ (a : Addr) (B : Heap) (H' : Hp) (cls : Value) (d : Option Addr), u = .ref a ∧ HandSPX.FlyingZ B outer a (Zc cls d) s'.heap ∧ HOk P w H' B ∧ UB (frs outer) H H' s.heap B s'.heap ∧ H' a = none ∧ s'.os = s.os ∧ AllBare s'.gens ∧ E cls d H' ∧ ∀ p ∈ pn, B.get? p.1 = some p.2 ∧ H' p.1 = none
/-- what a consumer holds where it wakes the generator: turns that are left, the state, the heap, what is owned -/
abbrev Cons := Nat → Shared → Hp → (Addr → Prop) → List (Addr × Obj) → Prop
/-- one generator: its def, its frame, its object, what its consumer asks -/
structure GD where
  P : Program
  w : World
  K : PySem.W.Frag
  mg : Str → Option Value
  base : Heap
  N : List Str
  qual : Str
  scope : Scope
  f : Addr
  cd : Value
  A : Around
  outer : List Env
  n0 : Addr
  E : Hp → (Addr → Prop) → XK
  pn : List (Addr × Obj)
  b : Bg
  a : Addr
  g : Nat
  T : Nat
  J : Cons
  Yd : Nat → PyData → Prop
  Qd : Nat → Prop
abbrev GD.env (G : GD) : Env := envOfC G.qual G.scope G.n0 G.f G.cd
structure GOk (G : GD) : Prop where
  nocell : ∀ x c, G.env.cells.lookup x = some c → False
  low : ∀ b ∈ frs G.outer, b < G.n0
  pnlow : ∀ p ∈ G.pn, G.n0 ≤ p.1
  gen : ∀ h : Heap, (∀ p ∈ G.pn, h.get? p.1 = some p.2) → h.IsGen G.a G.g
  apn : ∃ o, (G.a, o) ∈ G.pn
  yT : ∀ i d, G.Yd i d → i < G.T
/-- while it sleeps: of what was tracked only what others own may change -/
structure Naps (b : Bg) (H : Hp) (Z : Addr → Prop) (H2 : Hp) (Z2 : Addr → Prop) : Prop where
  g : b.G H2
  zb : ∀ a, b.B a → Z2 a
  dom : ∀ a, Z2 a → H2 a ≠ none
  young : ∀ a, Z2 a → Z a ∨ H a = none
  keep : ∀ a o, H a = some o → ¬ Z a → H2 a = some o
/-- a state in which it may be woken: own: its own records as they stood -/
structure Wakeable (G : GD) (own : List (Addr × Obj)) (H : Hp) (Z : Addr → Prop) (H2 : Hp) (Z2 : Addr → Prop) (xp : List (Addr × Obj)) (s2 : Shared) : Prop where
  nap : Naps G.b H Z H2 Z2
  bare : AllBare s2.gens
  bs : ∀ b o, G.base.get? b = some o → s2.heap.get? b = some o ∧ H2 b = none
  funs : s2.heap.FunFrames G.base G.outer
  frf : ∀ b ∈ frs G.outer, H2 b = none
  hok : HOk G.P G.w H2 s2.heap
  ownk : ∀ p ∈ own, s2.heap.get? p.1 = some p.2 ∧ H2 p.1 = none
  sz : G.n0 ≤ s2.heap.objs.size
  xok : ∀ p ∈ xp, s2.heap.get? p.1 = some p.2 ∧ H2 p.1 = none ∧ p.1 ≠ G.n0 ∧ p.1 ∉ frs G.outer ∧ (∀ v, p.2.data ≠ .cell v) ∧ ∀ p' ∈ own, p.1 ≠ p'.1
section
variable {G : GD} {ip : List (Addr × Obj)} {σ : L2.St} {H H2 H0 : Hp} {Z Z2 Z0 : Addr → Prop} {xp xp2 : List (Addr × Obj)} {s s2 s0 : Shared}
/-- what it hands over where it falls asleep, or ends -/
structure Gives (G : GD) (s₀ : Shared) (H0 : Hp) (xp : List (Addr × Obj)) (H1 : Hp) (s : Shared) : Prop where
  os : s.os = s₀.os
  bare : AllBare s.gens
  un : Un (frs G.outer) [] H0 H1 (pre G.n0 s₀.heap) s.heap
  hok : HOk G.P G.w H1 s.heap
  ex : Ex G.b H0 H1
  g : G.b.G H1
  gen : s.heap.IsGen G.a G.g
  xk : ∀ p ∈ xp, s.heap.get? p.1 = some p.2 ∧ H1 p.1 = none
def OwnP (G : GD) (own : List (Addr × Obj)) (s : Shared) (H1 : Hp) : Prop := (∃ o, (G.a, o) ∈ own) ∧ ∀ p ∈ own, s.heap.get? p.1 = some p.2 ∧ H1 p.1 = none ∧ G.n0 ≤ p.1 ∧ ∀ v, p.2.data ≠ .cell v
end
/-! ### the protocol -/
/-- others' records are none of the generator's own -/
def Dj (xp ip : List (Addr × Obj)) : Prop := ∀ p ∈ xp, ∀ p' ∈ ip, p.1 ≠ p'.1
def GYZ (G : GD) : Protocol := fun m s₀ v s kap => ∃ (H0 : Hp) (Z0 : Addr → Prop) (H1 : Hp) (x : V) (d : PyData) (own xp : List (Addr × Obj)), G.J (m + 1) s₀ H0 Z0 xp ∧ RelV x v ∧ Rq Z0 H1 x d ∧ G.Yd (G.T - (m + 1)) d ∧ Gives G s₀ H0 xp H1 s ∧ OwnP G own s H1 ∧ Dj xp own ∧
  ∀ s2 H2 Z2 xp2, G.J m s2 H2 Z2 xp2 → Wakeable G own H1 Z0 H2 Z2 xp2 s2 → kap (.send .none) s2
def GRZ (G : GD) : GenEnd := fun n s₀ r s => ((r = .ok (.ret .none) ∨ r = .ok .next) ∧ ∃ H0 Z0 H1 xp, G.J n s₀ H0 Z0 xp ∧ Gives G s₀ H0 xp H1 s ∧ G.Qd (G.T - n)) ∨
  ∃ e H0 Z0 xp, r = .error e ∧ G.J n s₀ H0 Z0 xp ∧ CXP G.P G.w G.outer H0 (cut G.n0 s₀) (G.E H0 Z0) (G.pn ++ xp) e s ∧ s.heap.IsGen G.a G.g
/-- where a segment stands: turns, the heap and what was owned where it was woken -/
structure Pt where
  i : Nat
  H0 : Hp
  Z0 : Addr → Prop
  xp : List (Addr × Obj)
structure GZ where
  nx : Pt → L2.St → Hp → Prop
  bk : Pt → L2.St → Hp → Prop
  ct : Pt → L2.St → Hp → Prop
abbrev SegZ (G : GD) (n : Nat) (s₀ : Shared) (c : Code) (t : Sem PySem.Fin) (fs : List Frame) (s : Shared) : Prop := Seg (model G.P G.w) G.A (GRZ G) (GYZ G) n s₀ c t fs s
end VL
set_option Elab.async false
set_option linter.all false
set_option maxRecDepth 100000
set_option maxHeartbeats 4000000
/-! VL106: loops in a generator that sleeps while its consumer runs -/
namespace VL
open PySem PySem.Spec PyProof.Rows L2 GenW
end VL
set_option Elab.async false
set_option linter.all false
set_option maxRecDepth 100000
set_option maxHeartbeats 4000000
/-! VL107: readings of such a generator's body: the number of items that are out -/
namespace VL
open PySem PySem.Spec PyProof.Rows L2 GenW
/-- what is wanted behind a statement, and of each item -/
structure GEz where
  nx : VEnv → Nat → Prop
  bk : VEnv → Nat → Prop
  ct : VEnv → Nat → Prop
  yd : Nat → PyData → Prop
  ex : VEnv → Er → Prop
abbrev VZ := VEnv → Nat → GEz → Prop
abbrev nobody : Addr → Prop := fun _ => False
/-- no name owns anything -/
@[simp] def noOwns : VEnv → Prop
  | [] => True
  | .own _ :: _ => False
  | .un :: r => noOwns r
  | .shr _ :: r => noOwns r
section
variable {G : GD} {st : Stmt} {rest xs zs body : List Stmt} {t : VS} {g u : VZ} {pos yp : Pos}
/-- a statement that hands out nothing -/
@[simp] def zP (t : VS) : VZ := fun ρ i De => t ρ { nx := fun ρ' => De.nx ρ' i, rt := fun _ => False, bk := fun ρ' => De.bk ρ' i, ct := fun ρ' => De.ct ρ' i, ex := De.ex }
@[simp] def zNil : VZ := fun ρ i De => De.nx ρ i
@[simp] def zThen (g u : VZ) : VZ := fun ρ i De => g ρ i { De with nx := fun ρ' i' => u ρ' i' De }
@[simp] def zIf (c : VB) (g u : VZ) : VZ := fun ρ i De => c ρ (fun k => if k = true then g ρ i De else u ρ i De) (De.ex ρ)
/-- an item: plain data; no name owns anything here -/
@[simp] def zYl (t : VT) : VZ := fun ρ i De => noOwns ρ ∧ t ρ (fun d => ∃ p, d = .py p ∧ De.yd i p ∧ De.nx ρ (i + 1)) (De.ex ρ)
@[simp] def zFor (ti : VIt) (tg : VTg) (tb : VZ) : VZ := fun ρ i De => ti ρ (fun ds => zForGo tg tb ds ρ i De) (De.ex ρ)
where @[simp] zForGo (tg : VTg) (tb : VZ) : List D → VEnv → Nat → GEz → Prop
  | [], ρ, i, De => De.nx ρ i
  | d :: ds, ρ, i, De => tg d ρ fun ρ1 => tb ρ1 i { De with nx := fun ρ2 i2 => zForGo tg tb ds ρ2 i2 De, ct := fun ρ2 i2 => zForGo tg tb ds ρ2 i2 De, bk := De.nx }
end
end VL
set_option Elab.async false
set_option linter.all false
set_option maxRecDepth 100000
set_option maxHeartbeats 4000000
/-! VL108: the promise of a generator def whose consumer runs any code -/
namespace VL
open PySem PySem.Spec PyProof.Rows L2 GenW
/-- the arguments; what is asked of each item by its place; of their number; of an error ahead of them -/
abbrev SZ := List D → (Nat → PyData → Prop) → (Nat → Prop) → (Er → Prop) → Prop
@[simp] def finZ (Y : Nat → PyData → Prop) (Q : Nat → Prop) (E : Er → Prop) : GEz := { nx := fun _ i => Q i, bk := fun _ _ => False, ct := fun _ _ => False, yd := Y, ex := fun _ => E }
/-- an error's wish, by where its segment began -/
def EZ (b : Bg) (Ed : Er → Prop) : Hp → (Addr → Prop) → XK := fun H Z c d H' => ∃ er, Ed er ∧ Ex b H H' ∧ b.G H' ∧ ErRp b Z H' c d er
def GD.use (G : GD) (A : Around) (T : Nat) (J : Cons) (Y : Nat → PyData → Prop) (Q : Nat → Prop) (Ed : Er → Prop) : GD := { G with A := A, E := EZ G.b Ed, T := T, J := J, Yd := Y, Qd := Q }
/-- a generator that has not begun -/
structure MadeZ (P : Program) (w : World) (base : Heap) (k : Nat) (outer : List Env) (b : Bg) (S : SZ) (ds : List D) (H : Hp) (Z : Addr → Prop) (s : Shared) (G : GD) (c : Code) (own : List (Addr × Obj)) (s' : Shared) : Prop where
  is : G.P = P ∧ G.w = w ∧ G.base = base ∧ G.outer = outer ∧ G.n0 = s.heap.objs.size ∧ G.b = b
  gen : s'.heap.IsGen G.a G.g
  at_ : s'.gens[G.g]? = some (.fresh c)
  os : s'.os = s.os
  bare : AllBare s'.gens
  keep : ∀ c o, s.heap.get? c = some o → s'.heap.get? c = some o
  ownp : OwnP G own s' H
  run : ∀ (A : Around) (T : Nat) (J : Cons) (Y : Nat → PyData → Prop) (Q : Nat → Prop) (Ed : Er → Prop), Room k A → A.frames = some outer → S ds Y Q Ed → (∀ i d, Y i d → i < T) → GOk (G.use A T J Y Q Ed) ∧
    ∀ s2 H2 Z2 xp2, J T s2 H2 Z2 xp2 → Wakeable (G.use A T J Y Q Ed) own H Z H2 Z2 xp2 s2 → SegZ (G.use A T J Y Q Ed) T s2 c ((model P w).den c) [] s2
structure GFnZ (P : Program) (w : World) (K : PySem.W.Frag) (mg : Str → Option Value) (base : Heap) (b : Bg) (k : Nat) (f : Addr) (fd : FuncData) (ps : List Str) (S : SZ) : Prop where
  len : ∀ ds Y Q E, S ds Y Q E → ds.length = ps.length
  run : ∀ (A : Around) (outer : List Env) (s : Shared) (H : Hp) (Z : Addr → Prop) (args : Args) (us : List Value) (vs : List V) (ds : List D), Room k A → Env0 P w K mg base A outer s H → BindsTo s fd args (ps.zip us) → Vals vs us → Gd b Z H → Rps b Z H vs ds → ds.length = ps.length →
    codeAny (model P w) A (.call (.ref f) args) (fun r s' => ∃ G c own, r = .ok (.ret (.ref G.a)) ∧ MadeZ P w base k outer b S ds H Z s G c own s') s
end VL
set_option Elab.async false
set_option linter.all false
set_option maxRecDepth 100000
set_option maxHeartbeats 4000000
/-! VL109: the consumer's turn: next of such a generator; it sleeps behind it, and stays as it is through any code -/
namespace VL
open PySem PySem.Spec PyProof.Rows L2 GenW
open Sem (wp)
end VL
set_option Elab.async false
set_option linter.all false
set_option maxRecDepth 100000
set_option maxHeartbeats 4000000
/-! VL110: the consumer: what it keeps while it runs, the turn -/
namespace VL
open PySem PySem.Spec PyProof.Rows L2 GenW
section
variable {G : GD} {X : Cx} {pins : List (Addr × Obj)} {σ : L2.St} {H H1 : Hp} {Z Z1 : Addr → Prop} {s : Shared} {own xp : List (Addr × Obj)} {n m : Nat}
def above (n0 : Nat) (h : Heap) : List Addr := (List.range h.objs.size).filter fun b => decide (n0 ≤ b)
end
end VL
set_option Elab.async false
set_option linter.all false
set_option maxRecDepth 100000
set_option maxHeartbeats 4000000
/-! VL111: `for x in g(..)` with any body that lets no exception out -/
namespace VL
open PySem PySem.Spec PyProof.Rows L2 GenW
structure CalZ (P : Program) (w : World) (K : PySem.W.Frag) (mg : Str → Option Value) (base : Heap) (b : Bg) (k : Nat) (x : Str) (ps : List Str) (S : SZ) where
  f : Addr
  fd : FuncData
  F : GFnZ P w K mg base b k f fd ps S
  g : mg x = some (.ref f)
  kp : PySem.W.keepIn K (.ref f) = true
  bd : Binds K fd ps []
section
variable {X : Cx} {b : Bg} {W : WX} {k j : Nat} {x : Str} {ps : List Str} {S : SZ} {e : Expr} {es : List Expr} {u : VA} {p pos pos2 fpos : Pos} {ns : Str → Prop}
variable {pins : List (Addr × Obj)} {σ : L2.St} {H : Hp} {s : Shared} {Zo Z : Addr → Prop} {ρ : VEnv} {Qd : List D → Prop} {Ed : Er → Prop}
@[simp] def sForZ (ns : Str → Prop) (S : SZ) (u : VA) (tv : VTg) (tb : VS) : VS := fun ρ De => u ρ (fun ds =>
  (∃ out : List PyData, S ds (fun i d => out[i]? = some d) (fun i => i = out.length) (fun _ => False) ∧ forGo tv tb (out.map D.py) ρ { De with ex := fun _ _ => False }) ∨ S ds (fun _ _ => False) (fun _ => False) (fun er => ns er.n ∧ De.ex ρ er)) (De.ex ρ)
end
end VL
set_option Elab.async false
set_option linter.all false
set_option maxRecDepth 100000
set_option maxHeartbeats 4000000
/-! VL112: a comprehension over a generator: its block as the consumer -/
namespace VL
open PySem PySem.Spec PyProof.Rows L2 GenW
end VL
set_option Elab.async false
set_option linter.all false
set_option maxRecDepth 100000
set_option maxHeartbeats 8000000
/-! VL113: `[item for x in g(..)]` -/
namespace VL
open PySem PySem.Spec PyProof.Rows L2 GenW
end VL
set_option Elab.async false
set_option linter.all false
set_option maxRecDepth 100000
set_option maxHeartbeats 8000000
/-! VL114: `[item for x in g(..)]` over values -/
namespace VL
open PySem PySem.Spec PyProof.Rows L2 GenW
@[simp] def vLcZ (ns : Str → Prop) (vs : List Nat) (S : SZ) (u : VA) (g : VTg) (tt : VB) (te : VT) : VT := fun ρ Q E => noOwn ρ vs ∧ u ρ (fun ds =>
  (∃ out : List PyData, S ds (fun i d => out[i]? = some d) (fun i => i = out.length) (fun _ => False) ∧ lcGo g tt te Q (out.map D.py) [] (wipeE ρ vs)) ∨ S ds (fun _ _ => False) (fun _ => False) (fun er => ns er.n ∧ E er)) E
end VL
set_option Elab.async false
set_option linter.all false
set_option maxRecDepth 100000
set_option maxHeartbeats 8000000
/-! VL115: `yield from` a list in such a generator -/
namespace VL
open PySem PySem.Spec PyProof.Rows L2 GenW
section
variable {G : GD} {ip : List (Addr × Obj)} {σ : L2.St} {fs : List Frame} {it a : Addr} {vs : List V} {ds : List PyData}
@[simp] def zYf (t : VT) : VZ := fun ρ i De => noOwns ρ ∧ t ρ (fun d => ∃ ds : List PyData, d = .py (.list ds) ∧ (∀ k p, ds[k]? = some p → De.yd (i + k) p) ∧ De.nx ρ (i + ds.length)) (De.ex ρ)
end
end VL
set_option Elab.async false
set_option linter.all false
set_option maxRecDepth 100000
set_option maxHeartbeats 8000000
/-! VL116: list(g(..)) of such a generator -/
namespace VL
open PySem PySem.Spec PyProof.Rows L2 GenW
abbrev in2 (X : Cx) : Cx := { X with A := X.A.in1.in1 }
@[simp] def vListZ (ns : Str → Prop) (S : SZ) (u : VA) : VT := fun ρ Q E => u ρ (fun ds =>
  (∃ out : List PyData, S ds (fun i d => out[i]? = some d) (fun i => i = out.length) (fun _ => False) ∧ out.length ≤ sizeLine ∧ Q (.py (.list out))) ∨ S ds (fun _ _ => False) (fun _ => False) (fun er => ns er.n ∧ E er)) E
end VL
set_option Elab.async false
set_option linter.all false
set_option maxRecDepth 100000
set_option maxHeartbeats 8000000
/-! VL117: generator defs of the text; a keyword-only parameter -/
namespace VL
open PySem PySem.Spec PyProof.Rows L2 GenW
/-- .. with a keyword-only parameter that has a default -/
structure CalZW (P : Program) (w : World) (K : PySem.W.Frag) (mg : Str → Option Value) (base : Heap) (b : Bg) (k : Nat) (x : Str) (ps : List Str) (kn : Str) (dv : PyData) (S : SZ) where
  f : Addr
  fd : FuncData
  F : GFnZ P w K mg base b k f fd (ps ++ [kn]) S
  g : mg x = some (.ref f)
  kp : PySem.W.keepIn K (.ref f) = true
  b0 : ∃ v ds, Vals [v] ds ∧ Binds K fd (ps ++ [kn]) ds ∧ ∀ Z H, Rq Z H v dv
  b1 : KBn K fd (ps ++ [kn]) ps.length [kn] (fun us ws => us ++ ws) (fun vs zs => vs ++ zs)
@[simp] def szW (dv : PyData) (S : SZ) : SZ := fun ds Y Q E => S (ds ++ [.py dv]) Y Q E
section
variable {X : Cx} {b : Bg} {W : WX} {k j : Nat} {x kn : Str} {ps : List Str} {dv : PyData} {S : SZ} {e e2 : Expr} {es : List Expr} {u : VA} {t : VT} {p pos kpos : Pos}
/-- the arguments, then the keyword's -/
@[simp] def vArgK (u : VA) (t : VT) : VA := fun ρ Q E => u ρ (fun ds => t ρ (fun d => Q (ds ++ [d])) E) E
end
end VL
set_option Elab.async false
set_option linter.all false
set_option maxRecDepth 100000
set_option maxHeartbeats 4000000
/-! VL118: range over ints of any size -/
namespace VL
open PySem PySem.Spec PyProof.Rows L2
@[simp] def asRB : List D → (List D → Prop) → Prop
  | [.py (.int i), .py (.int j)], Q => Q ((rangeP i (j - i).toNat).map D.py)
  | _, _ => False
@[simp] def iRB (t : VA) : VIt := fun ρ Q E => t ρ (fun d => asRB d Q) E
end VL
set_option Elab.async false
set_option linter.all false
set_option maxRecDepth 100000
set_option maxHeartbeats 4000000
/-! VL119: a dict of one text and a number -/
namespace VL
open PySem PySem.Spec PyProof.Rows L2
@[simp] def vDS (t : VT) (j : Int) : VT := fun ρ Q E => t ρ (fun d => ∃ z, d = .py (.str z) ∧ Q (.py (.dict [(.str z, .int j)]))) E
end VL
set_option Elab.async false
set_option linter.all false
set_option maxRecDepth 100000
set_option maxHeartbeats 4000000
/-! VL120: a call of an item of a list of defs: [f, g, ..][i](..) -/
namespace VL
open PySem PySem.Spec PyProof.Rows L2
/-- the defs of a list: what each promises -/
structure PickF (X : Cx) (b : Bg) (k : Nat) (fns : List Expr) (Ss : List SV) where
  fs : List Addr
  pa : PA X fns fun _ H Q => Q (fs.map V.ref) H
  len : fs.length = Ss.length
  fn : ∀ (n : Nat) (f : Addr) (S : SV), fs[n]? = some f → Ss[n]? = some S → PySem.W.keepIn X.K (.ref f) = true ∧ ∀ (_ : Room k X.A) (E : L2.St → XK) (_ : ∀ σ, PassesAt (L2.CX X.prog X.w) X σ (E σ)) (pins : List (Addr × Obj)) (σ : L2.St) (H : Hp) (s : Shared) (Q : VK) (us : List Value) (vs : List V),
    Inv X pins σ H s → Vals vs us → spV b S vs H Q (E σ) → wpAny (model X.prog X.w) X.A (call (.ref f) us) (EP X pins σ Q) X.xe s
section
variable {X : Cx} {b : Bg} {W : WX} {k j kx : Nat} {x : Str} {ps : List Str} {S : SV} {e ie : Expr} {es fns : List Expr} {Ss : List SV} {u : VA} {ti : VT} {p pos lp sp : Pos}
@[simp] def vCallIx (Ss : List SV) (ti : VT) (u : VA) : VT := fun ρ Q E => ti ρ (fun d => ∃ n : Nat, d = .py (.int (n : Int)) ∧ ∃ S, Ss[n]? = some S ∧ u ρ (fun ds => S ds Q E) E) E
end
end VL
set_option Elab.async false
set_option linter.all false
set_option maxRecDepth 100000
set_option maxHeartbeats 4000000
/-! VL121: == of two empty dicts, too -/
namespace VL
open PySem PySem.Spec PyProof.Rows L2
@[simp] def gEqE : D → D → (D → Prop) → Prop
  | .py (.dict []), .py (.dict []), Q => Q (.py (.bool true))
  | x, y, Q => gEq x y Q
end VL
set_option Elab.async false
set_option linter.all false
set_option maxRecDepth 100000
set_option maxHeartbeats 4000000
/-! VL122: a dict beside a tuple (!=) -/
namespace PySem
open PySem.Spec PyProof.Rows PySem.SeqAt
open Sem (wp)
end PySem
namespace VL
open PySem PySem.Spec PyProof.Rows L2
section
variable {X : Cx} {b : Bg} {W : WX} {e1 e2 : Expr} {t1 t2 : VT} {pos : Pos}
/-- .. a tuple on the right; a dict is no tuple -/
@[simp] def gNeU : D → D → (D → Prop) → Prop
  | .py (.dict _), .py (.tuple _), Q => Q (.py (.bool true))
  | x, y, Q => gNe x y Q
end
end VL
set_option Elab.async false
set_option linter.all false
set_option maxRecDepth 100000
set_option maxHeartbeats 4000000
/-! VL123: objects that change: their fields; tuples of objects; an own object lent to a def -/
namespace VL
open PySem PySem.Spec PyProof.Rows L2 StX
/-! ### fields -/
@[simp] def fvD : FV → D
  | .py p => .py p
  | .tps n L => .tps n L
  | .adr a => .raw (.ref a)
@[simp] def dFv : D → Option FV
  | .py p => some (.py p)
  | .tps n L => some (.tps n L)
  | .raw (.ref a) => some (.adr a)
  | _ => none
@[simp] def gFldQ (ns : List Str) (f : Str) : D → (D → Prop) → Prop
  | .rob _ m fs, Q => m ∈ ns ∧ ∃ x, fs.lookup f = some x ∧ Q (fvD x)
  | _, _ => False
@[simp] def putFV (f : Str) (p : FV) : List (Str × FV) → List (Str × FV)
  | [] => [(f, p)]
  | (g, x) :: r => if g = f then (g, p) :: r else (g, x) :: putFV f p r
section
variable {X : Cx} {b : Bg} {W : WX} {e o : Expr} {n f : Str} {t : VT} {pos pos' : Pos} {i : Nat} {ns : List Str}
/-- o.f = value, o an own object -/
@[simp] def sFldQ (i : Nat) (ns : List Str) (f : Str) (t : VT) : VS := fun ρ De => t ρ (fun d => ∃ x a n fs, dFv d = some x ∧ n ∈ ns ∧ ρ[i]? = some (.own (.rob a n fs)) ∧ fs.length < 1000 ∧ De.nx (ρ.set i (.own (.rob a n (putFV f x fs))))) (De.ex ρ)
end
/-! ### tuples of objects -/
@[simp] def gIxS : D → D → (D → Prop) → Prop
  | .tps n L, .py (.int i), Q => ∃ fs, atI L i = some fs ∧ ∀ a, Q (.obj a n fs)
  | _, _, _ => False
section
variable {X : Cx} {b : Bg} {W : WX} {e e1 e2 : Expr} {n f : Str} {t t1 t2 : VT} {pos pos' p : Pos} {i : Nat}
/-- (*e1, e2), e1 a tuple of objects of a class, e2 one more; (e,) -/
@[simp] def vSnocS (t u : VT) : VT := fun ρ Q E => t ρ (fun d => ∃ n L, d = .tps n L ∧ u ρ (fun o => ∃ a fs, o = .obj a n fs ∧ L.length + 1 ≤ sizeLine ∧ Q (.tps n (L ++ [fs]))) E) E
@[simp] def vOneS (t : VT) : VT := fun ρ Q E => t ρ (fun d => ∃ a n fs, d = .obj a n fs ∧ Q (.tps n [fs])) E
/-- e[lo:hi], e a tuple of objects -/
@[simp] def gSlS : D → Option Int → Option Int → (D → Prop) → Prop
  | .tps n L, lo, hi, Q => Q (.tps n (cutL L lo hi))
  | _, _, _, _ => False
end
end VL
set_option Elab.async false
set_option linter.all false
set_option maxRecDepth 100000
set_option maxHeartbeats 4000000
/-! VL124: an own object lent to a def, a method, a property that does not change it -/
namespace VL
open PySem PySem.Spec PyProof.Rows L2 StX
/-- the object has a field that only objects that change have -/
@[simp] def hallF (fs : List (Str × FV)) : Prop := (fs.lookup ("scenes" : Str)).isSome = true ∨ (fs.lookup ("pairs" : Str)).isSome = true
@[simp] def hallO : D → Prop
  | .py _ => True
  | .raw _ => True
  | .obj _ _ gs => gs.lookup ("scenes" : Str) = none ∧ gs.lookup ("pairs" : Str) = none
  | _ => False
/-! ### back from a smaller Z -/
/-! ### readings: values that may be lent; lists of arguments -/
/-- a name that holds an object that changes -/
@[simp] def vObj (i : Nat) : VT := fun ρ Q _ => ∃ a n fs, (ρ[i]? = some (.own (.rob a n fs)) ∨ ρ[i]? = some (.shr (.rob a n fs))) ∧ hallF fs ∧ Q (.rob a n fs)
/-! ### calls with lent arguments -/
@[simp] def vCallQ (S : SV) (u : VA) : VT := fun ρ Q E => u ρ (fun ds => S ds (fun d => hallO d ∧ Q d) E) E
@[simp] def vMethQ (ns : List Str) (m : Str) (S : Str → SV) (t : VT) (u : VA) : VT := fun ρ Q E => t ρ (fun d => ∃ a n fs, d = .rob a n fs ∧ n ∈ ns ∧ fs.lookup m = none ∧ u ρ (fun ds => S n (d :: ds) (fun d => hallO d ∧ Q d) E) E) E
@[simp] def vProp (ns : List Str) (S : SV) (t : VT) : VT := fun ρ Q E => t ρ (fun d => ∃ a n fs, d = .rob a n fs ∧ n ∈ ns ∧ S [d] (fun d => hallO d ∧ Q d) (fun _ => False)) E
end VL
set_option Elab.async false
set_option linter.all false
set_option maxRecDepth 100000
set_option maxHeartbeats 4000000
/-! VL125: defs that change an object handed to them; expressions that do -/
namespace VL
open PySem PySem.Spec PyProof.Rows L2 StX
abbrev FS := List (Str × FV)
/-- x n fs: the object, ds1 ds2: the arguments ahead of it and behind it -/
abbrev SM := Addr → Str → FS → List D → List D → (D → FS → Prop) → (Er → FS → Prop) → Prop
abbrev Zx (Z : Addr → Prop) (x : Addr) : Addr → Prop := fun c => Z c ∨ c = x
def spM (b : Bg) (S : SM) : Sp := fun vs H Q E => ∃ (x : Addr) (n : Str) (fs : FS) (vs1 vs2 : List V) (Z : Addr → Prop) (ds1 ds2 : List D) (Qd : D → FS → Prop) (Ed : Er → FS → Prop), vs = vs1 ++ .ref x :: vs2 ∧ Gd b Z H ∧ ¬ Z x ∧ Ow b (Zx Z x) H x (.rob x n fs) ∧
  Rps b (Zx Z x) H vs1 ds1 ∧ Rps b (Zx Z x) H vs2 ds2 ∧ S x n fs ds1 ds2 Qd Ed ∧
  (∀ v H' d fs', (∀ a o, H a = some o → ¬ b.B a → a ≠ x → H' a = some o) → b.G H' → Ow b (Zx Z x) H' x (.rob x n fs') → Rp b (Zx Z x) H' v d → Qd d fs' → Q v H') ∧
  ∀ c d H' er fs', (∀ a o, H a = some o → ¬ b.B a → a ≠ x → H' a = some o) → b.G H' → Ow b (Zx Z x) H' x (.rob x n fs') → ErRp b (Zx Z x) H' c d er → Ed er fs' → E c d H'
@[simp] def envM (x : Addr) (n : Str) (fs : FS) (N : Nat) (ds1 ds2 : List D) : VEnv := ds1.map Slot.shr ++ .own (.rob x n fs) :: (ds2.map Slot.shr ++ List.replicate (N - (ds1.length + 1 + ds2.length)) .un)
@[simp] def finM (x : Addr) (n : Str) (j : Nat) (Q : D → FS → Prop) (E : Er → FS → Prop) : VEnds where
  nx := fun ρ => ∃ fs, ρ[j]? = some (.own (.rob x n fs)) ∧ Q (.py .none) fs
  rt := fun _ => False
  bk := fun _ => False
  ct := fun _ => False
  ex := fun ρ er => ∃ fs, ρ[j]? = some (.own (.rob x n fs)) ∧ E er fs
  ro := fun ρ r => ∃ d fs, r = .val d ∧ ρ[j]? = some (.own (.rob x n fs)) ∧ Q d fs
/-! ### an own object changed by a call -/
/-! ### expressions that change own objects -/
abbrev VTM := VEnv → (D → VEnv → Prop) → (Er → VEnv → Prop) → Prop
@[simp] def mPure (t : VT) : VTM := fun ρ Q E => t ρ (fun d => Q d ρ) (fun er => E er ρ)
/-- arguments, one of them an own object that the call may change -/
abbrev VA1 := VEnv → (Nat → List D → Addr → Str → FS → List D → Prop) → (Er → Prop) → Prop
@[simp] def aOwn (i : Nat) (u : VA) : VA1 := fun ρ Q E => ∃ x n fs, ρ[i]? = some (.own (.rob x n fs)) ∧ u ρ (fun ds => Q i [] x n fs ds) E
@[simp] def aPre (t : VT) (a : VA1) : VA1 := fun ρ Q E => t ρ (fun d => a ρ (fun i ds1 x n fs ds2 => Q i (d :: ds1) x n fs ds2) E) E
@[simp] def mCall (S : SM) (a : VA1) : VTM := fun ρ Q E => a ρ (fun i ds1 x n fs ds2 => S x n fs ds1 ds2 (fun d fs' => Q d (ρ.set i (.own (.rob x n fs')))) (fun er fs' => E er (ρ.set i (.own (.rob x n fs'))))) (fun er => E er ρ)
@[simp] def mMeth (ns : List Str) (m : Str) (S : Str → SM) (i : Nat) (u : VA) : VTM := fun ρ Q E => ∃ x n fs, ρ[i]? = some (.own (.rob x n fs)) ∧ n ∈ ns ∧ fs.lookup m = none ∧
  u ρ (fun ds => S n x n fs [] ds (fun d fs' => Q d (ρ.set i (.own (.rob x n fs')))) (fun er fs' => E er (ρ.set i (.own (.rob x n fs'))))) (fun er => E er ρ)
/-- a def, a method that changes an object -/
structure CalF (P : Program) (w : World) (K : PySem.W.Frag) (mg : Str → Option Value) (base : Heap) (b : Bg) (k : Nat) (x : Str) (ps : List Str) (S : SM) where
  f : Addr
  fd : FuncData
  F : FnOk P w K mg base (L2.CX P w) k f fd ps (spM b S)
  g : mg x = some (.ref f)
  kp : PySem.W.keepIn K (.ref f) = true
  bd : Binds K fd ps []
end VL
set_option Elab.async false
set_option linter.all false
set_option maxRecDepth 100000
set_option maxHeartbeats 4000000
/-! VL126: statements around expressions that change own objects; new objects given back -/
namespace VL
open PySem PySem.Spec PyProof.Rows L2 StX
/-! ### lists of such expressions -/
abbrev VAM := VEnv → (List D → VEnv → Prop) → (Er → VEnv → Prop) → Prop
@[simp] def cmNil : VAM := fun ρ Q _ => Q [] ρ
@[simp] def cmCons (t : VTM) (u : VAM) : VAM := fun ρ Q E => t ρ (fun d ρ1 => u ρ1 (fun ds ρ2 => Q (d :: ds) ρ2) E) E
@[simp] def mLst (u : VAM) : VTM := fun ρ Q E => u ρ (fun ds ρ' => ∃ ps, pys ds = some ps ∧ ps.length ≤ sizeLine ∧ Q (.py (.list ps)) ρ') E
@[simp] def mTup (u : VAM) : VTM := fun ρ Q E => u ρ (fun ds ρ' => ∃ ps, pys ds = some ps ∧ ps.length ≤ sizeLine ∧ Q (.py (.tuple ps)) ρ') E
@[simp] def mIf (c : VB) (t u : VTM) : VTM := fun ρ Q E => c ρ (fun k => if k = true then t ρ Q E else u ρ Q E) (fun er => E er ρ)
/-- a test that changes own objects -/
abbrev VBM := VEnv → (Bool → VEnv → Prop) → (Er → VEnv → Prop) → Prop
@[simp] def bPure (t : VB) : VBM := fun ρ Q E => t ρ (fun k => Q k ρ) (fun er => E er ρ)
@[simp] def bVal (t : VTM) : VBM := fun ρ Q E => t ρ (fun d ρ' => ∃ k, d = .py (.bool k) ∧ Q k ρ') E
@[simp] def bNot (t : VBM) : VBM := fun ρ Q E => t ρ (fun k ρ' => Q (!k) ρ') E
@[simp] def bAnd (t u : VBM) : VBM := fun ρ Q E => t ρ (fun k ρ' => if k = true then u ρ' Q E else Q false ρ') E
@[simp] def bOr (t u : VBM) : VBM := fun ρ Q E => t ρ (fun k ρ' => if k = true then Q true ρ' else u ρ' Q E) E
/-! ### statements -/
@[simp] def sExprM (t : VTM) : VS := fun ρ De => t ρ (fun _ ρ' => De.nx ρ') (fun er ρ' => De.ex ρ' er)
@[simp] def sSetM (i : Nat) (t : VTM) : VS := fun ρ De => t ρ (fun d ρ' => i < ρ'.length ∧ De.nx (ρ'.set i (.shr d))) (fun er ρ' => De.ex ρ' er)
@[simp] def sAsgM (t : VTM) (g : VTg) : VS := fun ρ De => t ρ (fun d ρ' => g d ρ' De.nx) (fun er ρ' => De.ex ρ' er)
@[simp] def sRetO (t : VT) : VS := fun ρ De => t ρ (fun d => De.ro ρ (.val d)) (De.ex ρ)
@[simp] def sRetM (t : VTM) : VS := fun ρ De => t ρ (fun d ρ' => De.rt d ∨ De.ro ρ' (.val d)) (fun er ρ' => De.ex ρ' er)
@[simp] def sRetON : VS := fun ρ De => De.ro ρ (.val (.py .none))
@[simp] def sIfM (c : VBM) (g h : VS) : VS := fun ρ De => c ρ (fun k ρ' => if k = true then g ρ' De else h ρ' De) (fun er ρ' => De.ex ρ' er)
/-- return a new object; return the own object of slot j -/
@[simp] def sRetNw (t : VT) : VS := fun ρ De => t ρ (fun d => De.ro ρ (.nw d)) (De.ex ρ)
@[simp] def sRetOw (j : Nat) : VS := fun ρ De => ∃ d, ρ[j]? = some (.own d) ∧ De.ro ρ (.nw d)
/-- return [new object, ..]; return [own object, ..] -/
@[simp] def sRetNwL (u : VAm) : VS := fun ρ De => u ρ (fun ms => ∃ d ds, ms = (true, d) :: ds.map (fun d => (false, d)) ∧ ds.length < 1000 ∧ De.ro ρ (.nwL d ds)) (De.ex ρ)
@[simp] def sRetOwL (j : Nat) (u : VA) : VS := fun ρ De => ∃ d, ρ[j]? = some (.own d) ∧ u ρ (fun ds => ds.length < 1000 ∧ De.ro ρ (.nwL d ds)) (De.ex ρ)
/-! ### what gives back a new object; a new list that begins with one -/
abbrev SL := List D → (D → List D → Prop) → (Er → Prop) → Prop
def spN (b : Bg) (S : SV) : Sp := fun vs H Q E => ∃ Z ds Qd Ed, Gd b Z H ∧ Rps b Z H vs ds ∧ S ds Qd Ed ∧ (∀ x H' d, Ex b H H' → b.G H' → H x = none → Ow b (Zx Z x) H' x d → Qd d → Q (.ref x) H') ∧ ∀ c x H' er, Ex b H H' → b.G H' → ErRp b Z H' c x er → Ed er → E c x H'
def spL (b : Bg) (S : SL) : Sp := fun vs H Q E => ∃ Z ds Qd Ed, Gd b Z H ∧ Rps b Z H vs ds ∧ S ds Qd Ed ∧
  (∀ p x ws H' d ds', Ex b H H' → b.G H' → H p = none → H x = none → p ≠ x → H' p = some (.lst (.ref x :: ws)) → Ow b (Zx (Zx Z x) p) H' x d → Rps b (Zx (Zx Z x) p) H' ws ds' → Qd d ds' → Q (.ref p) H') ∧ ∀ c x H' er, Ex b H H' → b.G H' → ErRp b Z H' c x er → Ed er → E c x H'
@[simp] def finN (Q : D → Prop) (E : Er → Prop) : VEnds where
  nx := fun _ => False
  rt := fun _ => False
  bk := fun _ => False
  ct := fun _ => False
  ex := fun _ => E
  ro := fun _ r => ∃ d, r = .nw d ∧ Q d
@[simp] def finL (Q : D → List D → Prop) (E : Er → Prop) : VEnds where
  nx := fun _ => False
  rt := fun _ => False
  bk := fun _ => False
  ct := fun _ => False
  ex := fun _ => E
  ro := fun _ r => ∃ d ds, r = .nwL d ds ∧ Q d ds
structure CalN (P : Program) (w : World) (K : PySem.W.Frag) (mg : Str → Option Value) (base : Heap) (b : Bg) (k : Nat) (x : Str) (ps : List Str) (S : SV) where
  f : Addr
  fd : FuncData
  F : FnOk P w K mg base (L2.CX P w) k f fd ps (spN b S)
  g : mg x = some (.ref f)
  kp : PySem.W.keepIn K (.ref f) = true
  bd : Binds K fd ps []
structure CalL (P : Program) (w : World) (K : PySem.W.Frag) (mg : Str → Option Value) (base : Heap) (b : Bg) (k : Nat) (x : Str) (ps : List Str) (S : SL) where
  f : Addr
  fd : FuncData
  F : FnOk P w K mg base (L2.CX P w) k f fd ps (spL b S)
  g : mg x = some (.ref f)
  kp : PySem.W.keepIn K (.ref f) = true
  bd : Binds K fd ps []
/-- names = a call that gives back a new list with a new object ahead -/
@[simp] def sUnlN (is : List Nat) (S : SL) (u : VA) : VS := fun ρ De => (∀ i ∈ is, i < ρ.length) ∧ u ρ (fun ds => S ds (fun d ds' => ds'.length + 1 = is.length ∧ De.nx (setE is ((true, d) :: ds'.map fun d => (false, d)) ρ)) (De.ex ρ)) (De.ex ρ)
end VL
set_option Elab.async false
set_option linter.all false
set_option maxRecDepth 100000
set_option maxHeartbeats 4000000
/-! VL127: of classes whose objects change: constants, static methods, making one; len, str; texts with holes -/
namespace VL
open PySem PySem.Spec PyProof.Rows L2 StX
/-! ### a constant of the class, read through an object -/
@[simp] def vConQ (ns : List Str) (f : Str) (p : PyData) (t : VT) : VT := fun ρ Q E => t ρ (fun d => ∃ a n fs, d = .rob a n fs ∧ n ∈ ns ∧ fs.lookup f = none ∧ Q (.py p)) E
/-! ### a static method, through an object and through the class -/
@[simp] def vStat (ns : List Str) (m : Str) (S : SV) (t : VT) (u : VA) : VT := fun ρ Q E => t ρ (fun d => ∃ a n fs, d = .rob a n fs ∧ n ∈ ns ∧ fs.lookup m = none ∧ u ρ (fun ds => S ds Q E) E) E
/-- through a class that a name holds -/
@[simp] def vStatC (ns : List Str) (S : SV) (i : Nat) (u : VA) : VT := fun ρ Q E => ∃ n, n ∈ ns ∧ ρ[i]? = some (.shr (.cls n)) ∧ u ρ (fun ds => S ds Q E) E
/-! ### C(), C a class of objects that change; by its name, by a name that holds it -/
structure CalK (P : Program) (w : World) (K : PySem.W.Frag) (mg : Str → Option Value) (base : Heap) (b : Bg) (k : Nat) (n : Str) (S : SM) where
  f : Addr
  fd : FuncData
  ps : List Str
  F : FnOk P w K mg base (L2.CX P w) k f fd ps (spM b S)
  M : Mk K (b.cls n) f
  g : mg n = some (.ref (b.cls n))
  bd : Binds K fd ps []
@[simp] def vMakeQ (n : Str) (S : SM) (u : VA) : VT := fun ρ Q E => u ρ (fun ds => ∀ a, S a n [] [] ds (fun d fs => d = .py .none ∧ Q (.rob a n fs)) (fun er _ => E er)) E
/-- c(), c a name that holds one of the classes -/
@[simp] def vMakeC (ns : List Str) (S : Str → SM) (i : Nat) : VT := fun ρ Q E => ∃ n, n ∈ ns ∧ ρ[i]? = some (.shr (.cls n)) ∧ ∀ a, S n a n [] [] [] (fun d fs => d = .py .none ∧ Q (.rob a n fs)) (fun er _ => E er)
/-! ### len(o), str(o) by the class's own defs -/
@[simp] def vLenQ (ns : List Str) (S : Str → SV) (t : VT) : VT := fun ρ Q E => t ρ (fun d => ∃ a n fs, d = .rob a n fs ∧ n ∈ ns ∧ S n [d] (fun r => ∃ i : Int, r = .py (.int i) ∧ 0 ≤ i ∧ i < 2 ^ 63 ∧ Q r) (fun _ => False)) E
@[simp] def vStrQ (ns : List Str) (S : Str → SV) (t : VT) : VT := fun ρ Q E => t ρ (fun d => ∃ a n fs, d = .rob a n fs ∧ n ∈ ns ∧ S n [d] (fun r => ∃ y : Str, r = .py (.str y) ∧ Q r) (fun _ => False)) E
/-! ### texts with holes -/
@[simp] def gFmt : D → (D → Prop) → Prop
  | .py (.str y), Q => y.length ≤ sizeLine ∧ Q (.py (.str y))
  | .py (.int i), Q => i.natAbs.log2 < 1920 ∧ Q (.py (.str (toString i)))
  | _, _ => False
abbrev VJ := VEnv → Str → (Str → Prop) → (Er → Prop) → Prop
@[simp] def jNil : VJ := fun _ acc Q _ => Q acc
@[simp] def jCons (t : VT) (u : VJ) : VJ := fun ρ acc Q E => t ρ (fun d => ∃ y, d = .py (.str y) ∧ (acc ++ y).length ≤ sizeLine ∧ u ρ (acc ++ y) Q E) E
@[simp] def vJoin (u : VJ) : VT := fun ρ Q E => u ρ Str.empty (fun z => Q (.py (.str z))) E
end VL
set_option Elab.async false
set_option linter.all false
set_option maxRecDepth 100000
set_option maxHeartbeats 4000000
/-! VL128: try: .. finally: .. -/
namespace VL
open PySem PySem.Spec PyProof.Rows L2 StX
/-- behind the body, and on the way of an error, the suite -/
@[simp] def endF (De : VEnds) (er : Er) : VEnds where
  nx := fun ρ => De.ex ρ er
  rt := fun _ => False
  bk := fun _ => False
  ct := fun _ => False
  ex := fun _ _ => False
@[simp] def endT (tf : VS) (De : VEnds) : VEnds where
  nx := fun ρ => tf ρ { De with ex := fun _ _ => False }
  rt := fun _ => False
  bk := fun _ => False
  ct := fun _ => False
  ex := fun ρ er => tf ρ (endF De er)
@[simp] def sFin (tb tf : VS) : VS := fun ρ De => tb ρ (endT tf De)
end VL
set_option Elab.async false
set_option linter.all false
set_option maxRecDepth 100000
set_option maxHeartbeats 4000000
/-! VL129: star parameters of methods and class methods; keyword-only parameters of methods; facts for the join -/
namespace VL
open PySem PySem.Spec PyProof.Rows L2 StX
/-! ### def m(self, *v) that changes self -/
@[simp] def smStar (S : SM) : SM := fun x n fs ds1 ds2 Q E => ds1 = [] ∧ ∃ ps, pys ds2 = some ps ∧ ps.length ≤ sizeLine ∧ S x n fs [] [.py (.tuple ps)] Q E
/-! ### a class method with a star, that gives back a new object -/
/-! ### C.m(..), m a class method that gives back a new object -/
structure CalC (P : Program) (w : World) (K : PySem.W.Frag) (mg : Str → Option Value) (base : Heap) (b : Bg) (k : Nat) (n m : Str) (S : SV) where
  p : Addr
  g : Addr
  mc : Value
  F : FnR P w K mg base (L2.CX P w) k g (spN b S)
  rd : ClX.CRead K (b.cls n) mc
  cm : ClX.CMet K (b.cls n) mc m p g
  gn : mg n = some (.ref (b.cls n))
@[simp] def vClsM (n : Str) (S : SV) (u : VA) : VT := fun ρ Q E => u ρ (fun ds => S (.cls n :: ds) Q E) E
end VL
set_option Elab.async false
set_option linter.all false
set_option maxRecDepth 100000
set_option maxHeartbeats 4000000
/-! VL130: the sack: a list of a number and a list -/
namespace VL
open PySem PySem.Spec PyProof.Rows L2
end VL
set_option Elab.async false
set_option linter.all false
set_option maxRecDepth 100000
set_option maxHeartbeats 4000000
/-! VL131: two names at once, the first by a call that changes an object; facts of the classes, for the join -/
namespace VL
open PySem PySem.Spec PyProof.Rows L2 StX
@[simp] def qNs : List Str := ["Queue", "TalliedQueue"]
@[simp] def sPar2M (i j : Nat) (u : VAM) : VS := fun ρ De => u ρ (fun ds ρ' => ∃ d1 d2, ds = [d1, d2] ∧ i < ρ'.length ∧ j < ρ'.length ∧ De.nx ((ρ'.set i (.shr d1)).set j (.shr d2))) (fun er ρ' => De.ex ρ' er)
/-! ### facts of the classes -/
end VL
set_option Elab.async false
set_option linter.all false
set_option maxRecDepth 100000
set_option maxHeartbeats 4000000
/-! VL132: the loop that gathers a line into blocks (a list of lists, the last of which grows) -/
namespace VL
open PySem PySem.Spec PyProof.Rows L2 StX
end VL
set_option Elab.async false
set_option linter.all false
set_option maxRecDepth 100000
set_option maxHeartbeats 4000000
/-! VL133: an inner list is changed (pieces for vs_forBlk) -/
namespace VL
open PySem PySem.Spec PyProof.Rows L2 StX
end VL
set_option Elab.async false
set_option linter.all false
set_option maxRecDepth 100000
set_option maxHeartbeats 4000000
/-! VL134: the rule of the loop that gathers a line into blocks -/
namespace VL
open PySem PySem.Spec PyProof.Rows L2 StX
end VL
set_option Elab.async false
set_option linter.all false
set_option maxRecDepth 100000
set_option maxHeartbeats 4000000
/-! VL135: a method that first asks super() for the text of the class above, then goes on -/
namespace VL
open PySem PySem.Spec PyProof.Rows L2 StX
end VL
set_option Elab.async false
set_option linter.all false
set_option maxRecDepth 100000
set_option maxHeartbeats 4000000
/-! VL136: tried(lambda: ..), where the lambda may change an own object; values of such calls in larger expressions -/
namespace VL
open PySem PySem.Spec PyProof.Rows L2 StX
open LamX (CodeO Tabs TabS TabB LamS lamEnv lamCx)
/-- what is told of an error -/
def triedE (names : List Str) (th : Addr → Option Addr → Er → VS) (er : Er) (Q : D → Prop) : Prop := er.n ∈ names ∧ errSub er.n "LineError" = true ∧
  ∀ f a d, th a d er [.shr (.raw f), .shr (.err a d er.n er.fs)] (afterS 1 { nx := fun _ => False, rt := Q, bk := fun _ => False, ct := fun _ => False, ex := fun _ _ => False })
@[simp] def mTried (names : List Str) (th : Addr → Option Addr → Er → VS) (te : VTM) : VTM := fun ρ Q _ => te ρ Q (fun er ρ' => triedE names th er (fun d => Q d ρ'))
/-! ### defs that make lambdas and change an object -/
/-- a def that changes an object, and shows values -/
structure CalFG (P : Program) (w : World) (K : PySem.W.Frag) (mg : Str → Option Value) (base : Heap) (b : Bg) (k : Nat) (x : Str) (ps : List Str) (S : SM) where
  f : Addr
  fd : FuncData
  F : FnL P w K mg base k f fd ps (spM b S)
  g : mg x = some (.ref f)
  kp : PySem.W.keepIn K (.ref f) = true
  bd : Binds K fd ps []
@[simp] def mCalB (g : List D → (D → Prop) → Prop) (t : VTM) : VTM := fun ρ Q E => t ρ (fun d ρ1 => g [d] (fun z => Q z ρ1)) E
@[simp] def bBin (g : D → D → (D → Prop) → Prop) (t1 : VTM) (t2 : VT) : VBM := fun ρ Q E => t1 ρ (fun d ρ1 => t2 ρ1 (fun d2 => g d d2 (fun z => ∃ k, z = .py (.bool k) ∧ Q k ρ1)) (fun er => E er ρ1)) E
@[simp] def mAnd (t1 t2 : VTM) : VTM := fun ρ Q E => t1 ρ (fun d ρ1 => ∃ k, d = .py (.bool k) ∧ if k = true then t2 ρ1 Q E else Q (.py (.bool false)) ρ1) E
@[simp] def sSetNM (i : Nat) (t : VTM) : VS := fun ρ De => t ρ (fun d ρ' => i < ρ'.length ∧ De.nx (ρ'.set i (.own d))) (fun er ρ' => De.ex ρ' er)
@[simp] def sPar2NM (i j : Nat) (t1 : VT) (t2 : VTM) : VS := fun ρ De => t1 ρ (fun d1 => t2 ρ (fun d2 ρ' => i < ρ'.length ∧ j < ρ'.length ∧ De.nx ((ρ'.set i (.shr d1)).set j (.own d2))) (fun er ρ' => De.ex ρ' er)) (De.ex ρ)
@[simp] def sAppM (i : Nat) (t : VTM) : VS := fun ρ De => (∃ xs0, ρ[i]? = some (.own (.py (.list xs0)))) ∧ t ρ (fun d ρ' => ∃ xs p, ρ'[i]? = some (.own (.py (.list xs))) ∧ d = .py p ∧ xs.length < sizeLine ∧ De.nx (ρ'.set i (.own (.py (.list (xs ++ [p])))))) (fun er ρ' => De.ex ρ' er)
end VL
set_option Elab.async false
set_option linter.all false
set_option maxRecDepth 100000
set_option maxHeartbeats 4000000
/-! VL137: a def without arguments that gives a list with a new object -/
namespace VL
open PySem PySem.Spec PyProof.Rows L2 StX
end VL
set_option Elab.async false
set_option linter.all false
set_option maxRecDepth 100000
set_option maxHeartbeats 4000000
namespace VL
open PySem PySem.Spec PyProof.Rows L2 StX
/-! VL138: o.m(k=e): a method's one keyword-only parameter given by its name -/
end VL
set_option Elab.async false
set_option linter.all false
set_option maxRecDepth 100000
set_option maxHeartbeats 4000000
namespace VL
open PySem PySem.Spec PyProof.Rows L2 HT
/-! VL139: an own dict whose keys are tuples of ints -/
abbrev KTi : List (List Int × V) → List (List Int × Addr × Value) → Prop := Paired fun p q => p.1 = q.1 ∧ RelV p.2 q.2.2
/-- the dict as data -/
def getT (kvs : List (List Int × PyData)) (k : List Int) : Option PyData := (kvs.find? fun p => decide (p.1 = k)).map (·.2)
def putT (kvs : List (List Int × PyData)) (k : List Int) (x : PyData) : List (List Int × PyData) :=
  if (kvs.any fun p => decide (p.1 = k)) = true then kvs.map (fun p => if p.1 = k then (p.1, x) else p) else kvs ++ [(k, x)]
abbrev KD (Z : Addr → Prop) (H : Hp) : List (List Int × V) → List (List Int × PyData) → Prop := Paired fun p q => p.1 = q.1 ∧ Rq Z H p.2 q.2
section
variable {Z : Addr → Prop} {H : Hp}
theorem KD.mono {Z' : Addr → Prop} {H' : Hp} (hz : ∀ a, Z' a → Z a ∨ H a = none) (hs : ∀ a o, H a = some o → ¬ Z a → H' a = some o) {vs : List (List Int × V)} {kvs : List (List Int × PyData)} (r : KD Z H vs kvs) : KD Z' H' vs kvs :=
  Paired.mapP r fun _ _ h => ⟨h.1, h.2.mono hz hs⟩
end
/-- an object as it stands -/
def dHO (a : Addr) (o : Obj) : HO := .ext fun h => h.get? a = some o
theorem dHO_ne {a : Addr} {o : Obj} {es : Array DictEntry} {ep : Nat} (hd : o.data = .dict es ep) : ¬ still (dHO a o) := fun ⟨h, c, u, vs, h1, h2, h3, h4⟩ => by
  have h1 : h.get? a = some o := h1
  by_cases e : a = c
  · rw [e, h2] at h1
    cases h1
    rw [hd] at h3; cases h3
  · rw [h4 a e] at h1; cases h1
abbrev KeyAt (Z : Addr → Prop) (H : Hp) (x : List Int × Addr × Value) : Prop := Rq Z H (.ref x.2.1) (.tuple (x.1.map .int))
def TdR (kvs : List (List Int × PyData)) (Z : Addr → Prop) (H : Hp) (a : Addr) : Prop :=
  (kvs = [] ∧ H a = some (.dK [])) ∨ ∃ (o : Obj) (es : Array DictEntry) (ep : Nat) (xs : List (List Int × Addr × Value)) (vs : List (List Int × V)), H a = some (dHO a o) ∧ (a == sysModules) = false ∧ o.ExactDict ∧ o.data = .dict es ep ∧
    (∀ (P : Program) (w : World), es.toList = xs.map (entryOfKey (tupleKind (PySem.intKind P w)))) ∧ (xs.map (·.1)).Nodup ∧ (∀ x ∈ xs, KeyAt Z H x) ∧ KTi vs xs ∧ KD Z H vs kvs
theorem TdR.mono {kvs : List (List Int × PyData)} {Z Z' : Addr → Prop} {H H' : Hp} {a : Addr} (hz : ∀ a, Z' a → Z a ∨ H a = none) (hs : ∀ a o, H a = some o → ¬ Z a → H' a = some o) (ha : ∀ o, H a = some o → H' a = some o) (r : TdR kvs Z H a) : TdR kvs Z' H' a := by
  rcases r with ⟨e, h⟩ | ⟨o, es, ep, xs, vs, h1, h2, h3, h4, h5, h6, h7, h8, h9⟩
  · exact .inl ⟨e, ha _ h⟩
  · exact .inr ⟨o, es, ep, xs, vs, ha _ h1, h2, h3, h4, h5, h6, fun x hx => (h7 x hx).mono hz hs, h8, h9.mono hz hs⟩
def tdA (kvs : List (List Int × PyData)) : Abs where
  R := TdR kvs
  at_ := fun r => by
    rcases r with ⟨_, h⟩ | ⟨o, es, ep, xs, vs, h1, _⟩
    · exact ⟨_, h⟩
    · exact ⟨_, h1⟩
  noext := fun r o ho z => by
    rcases r with ⟨_, h⟩ | ⟨u, es, ep, xs, vs, h1, _, _, h4, _⟩
    · rw [h] at z; cases z; exact ho
    · rw [h1] at z; cases z; exact dHO_ne h4 ho
  mono := TdR.mono
end VL
set_option Elab.async false
set_option linter.all false
set_option maxRecDepth 100000
set_option maxHeartbeats 4000000
namespace VL
open PySem PySem.Spec PyProof.Rows L2 HT
/-! VL140: rules for an own dict with keys that are tuples of ints -/
@[simp] def vTdGet2 (td ty tx : VT) : VT := fun ρ Q E => td ρ (fun d => ∃ kvs, d = .abs (tdA kvs) ∧ ty ρ (fun y => ∃ k : List Int, y = .py (.tuple (k.map .int)) ∧ tx ρ (fun z => ∃ p, z = .py p ∧ Q (.py ((getT kvs k).getD p))) E) E) E
@[simp] def vTdIx (td ty : VT) : VT := fun ρ Q E => td ρ (fun d => ∃ kvs, d = .abs (tdA kvs) ∧ ty ρ (fun y => ∃ (k : List Int) (x : PyData), y = .py (.tuple (k.map .int)) ∧ getT kvs k = some x ∧ Q (.py x)) E) E
section
variable {X : Cx} {b : Bg} {W : WX} {o e f : Expr} {td ty tx : VT} {apos cpos pos pos' : Pos} {i : Nat}
@[simp] def gInTd : D → D → (D → Prop) → Prop := fun x y Q => ∃ kvs, y = .abs (tdA kvs) ∧ ∃ k : List Int, x = .py (.tuple (k.map .int)) ∧ Q (.py (.bool (getT kvs k).isSome))
@[simp] def vTd0 : VT := fun _ Q _ => Q (.abs (tdA []))
/-- d[k] = x -/
@[simp] def sTdPut (i : Nat) (ty tv : VT) : VS := fun ρ De => ∃ kvs, ρ[i]? = some (.own (.abs (tdA kvs))) ∧ tv ρ (fun x => ∃ p, x = .py p ∧ ty ρ (fun y => ∃ k : List Int, y = .py (.tuple (k.map .int)) ∧ kvs.length < sizeLine ∧ De.nx (ρ.set i (.own (.abs (tdA (putT kvs k p)))))) (De.ex ρ)) (De.ex ρ)
end
end VL
set_option Elab.async false
set_option linter.all false
set_option maxRecDepth 100000
set_option maxHeartbeats 4000000
namespace VL
open PySem PySem.Spec PyProof.Rows L2 HT
/-! VL141: for k in d, the keys tuples of ints -/
section
variable {X : Cx} {tg e : Expr} {td : TE} {b : Bg} {W : WX} {j : Nat}
@[simp] def iTd (j : Nat) : VIt := fun ρ Q _ => ∃ kvs, ρ[j]? = some (.shr (.abs (tdA kvs))) ∧ kvs ≠ [] ∧ Q (kvs.map fun p => D.py (.tuple (p.1.map PyData.int)))
end
end VL
set_option Elab.async false
set_option linter.all false
set_option maxRecDepth 100000
set_option maxHeartbeats 4000000
namespace LawP
open PySem PySem.Spec PyProof.Rows L2 VL
def t_mates : VS :=
  (sSeq (sPar [1, 2] (mCons true (vLst vNil) (mCons true vD0 mNil)))
  (sSeq (sFor (iEn (vCons (vVar 0) vNil)) (tgTup 2 (tgCons (tgName 3) (tgCons (tgName 4) tgNil)))
  (sSeq (sMut 1 gApp (vCons (vDGet2 (vBor 2) (vVar 4) (vC (.py .none))) vNil))
  (sDPutO 2 (vVar 4) (vVar 3))))
  (sRet (vCal gTuple (vCons (vBor 1) vNil)))))
end LawP
set_option Elab.async false
set_option linter.all false
namespace LawP
open PySem VL
/-! ### mates: the mathematics -/
/-- the latest person before i of the group g -/
def lastIn (row : List Int) (g : Int) (i : Nat) : Option Nat := ((List.range i).filter fun j => row[j]? == some g).getLast?
def mateOf (row : List Int) (i : Nat) : Option Nat := (row[i]?).bind fun g => lastIn row g i
def matesL (row : List Int) : List (Option Nat) := (List.range row.length).map (mateOf row)
theorem lastIn_succ (row : List Int) (g : Int) (i : Nat) : lastIn row g (i + 1) = if row[i]? = some g then some i else lastIn row g i := by
  unfold lastIn
  rw [List.range_succ, List.filter_append]
  by_cases h : row[i]? = some g
  · rw [if_pos h]; simp [h]
  · rw [if_neg h]; simp [h]
theorem lastIn_some {row : List Int} {g : Int} {i m : Nat} (h : lastIn row g i = some m) : m < i ∧ row[m]? = some g ∧ ∀ j, m < j → j < i → row[j]? ≠ some g := by
  induction i with
  | zero => simp [lastIn] at h
  | succ i ih =>
    rw [lastIn_succ] at h
    split at h
    · rename_i c
      cases h
      exact ⟨Nat.lt_succ_self _, c, fun j h1 h2 => by omega⟩
    · rename_i c
      obtain ⟨a, b, d⟩ := ih h
      refine ⟨by omega, b, fun j h1 h2 => ?_⟩
      by_cases e : j = i
      · rw [e]; exact c
      · exact d j h1 (by omega)
theorem mateOf_lt {row : List Int} {i m : Nat} (h : mateOf row i = some m) : m < i ∧ i < row.length := by
  unfold mateOf at h
  cases e : row[i]? with
  | none => rw [e] at h; cases h
  | some g =>
    rw [e] at h
    exact ⟨(lastIn_some h).1, (List.getElem?_eq_some_iff.mp e).1⟩
theorem mateOf_at {row : List Int} {i : Nat} {g : Int} (h : row[i]? = some g) : mateOf row i = lastIn row g i := by unfold mateOf; rw [h]; rfl
end LawP
set_option Elab.async false
set_option linter.all false
set_option maxRecDepth 100000
set_option maxHeartbeats 4000000
namespace LawP
open PySem PySem.Spec PyProof.Rows L2 VL
/-! ### mates -/
def matesP (row : List Int) : PyData := .tuple ((matesL row).map oN)
@[simp] def S_mates : SV := fun ds Q _ => ∃ row : List Int, ds = [.py (tI row)] ∧ row.length ≤ 1000 ∧ Q (.py (matesP row))
theorem l_mates : ∀ ds Q E, S_mates ds Q E → t_mates (envOf 5 ds) (fin Q E) := by
  rintro ds Q E ⟨row, rfl, hl, q⟩
  simp [t_mates, tI, -forGo]
  refine for_inv (fun i ρ => ∃ acc ds x y, ρ = [.shr (.py (tI row)), .own (.py (.list acc)), .own (.py (.dict ds)), x, y] ∧ acc = ((matesL row).take i).map oN ∧ ds.length ≤ i ∧ ∀ g, getD ds (.inl g) = (lastIn row g i).map pN) (fun i d ρ hd iv nx ct hn => ?_) (fun ρ iv => ?_) ⟨[], [], _, _, rfl, by simp, by simp, fun g => by simp [lastIn]⟩
  · obtain ⟨acc, ds, x, y, rfl, ea, h1, h2⟩ := iv
    obtain ⟨g, hg, rfl⟩ := enumP_getD hd
    have hi : i < row.length := (List.getElem?_eq_some_iff.mp hg).1
    have hm : (matesL row)[i]? = some (mateOf row i) := by simp [matesL, hi]
    have la : acc.length = i := by rw [ea]; simp [matesL]; omega
    simp [VL.keyOf, h2]
    refine ⟨by omega, by omega, (hn _ ⟨_, _, _, _, rfl, ?_, ?_, fun g' => ?_⟩).1⟩
    · rw [take_succ_get hm, List.map_append, ea, mateOf_at hg]
      cases lastIn row g i <;> rfl
    · have := putD_len ds (.inl g) (.int i)
      omega
    · rw [getD_putD, lastIn_succ, h2, hg]
      by_cases c : g' = g
      · subst c; simp [pN]
      · simp [c, Ne.symm c]
  · obtain ⟨acc, ds, x, y, rfl, ea, _, _⟩ := iv
    rw [List.take_of_length_le (by simp [matesL, enumP_len])] at ea
    subst ea
    simpa [matesP] using q
/-! ### a drawn row -/
@[simp] def S_law_drawn (r : Addr) : SV
  | [.raw v, .py (.int m)], Q, _ => v = .ref r ∧ 1 ≤ m ∧ m ≤ 40 ∧ ∀ gs : List Int, gs ≠ [] → gs.length ≤ m → (∀ g ∈ gs, 0 ≤ g ∧ g ≤ 1000000000) → Q (.py (.tuple (gs.map PyData.int)))
  | _, _, _ => False
end LawP
set_option Elab.async false
set_option linter.all false
set_option maxRecDepth 100000
set_option maxHeartbeats 4000000
namespace LawP
open PySem PySem.Spec PyProof.Rows L2 VL
def t_j_row (S_law_pour : SV) : VS :=
  (sSeq (sSet 2 (vBin gAdd (vC (.py (.int 1))) (vCall S_law_pour (vCons (vVar 0) (vCons (vVar 1) vNil)))))
  (sSeq (sSet 3 (vBin gIx (vLst (vCons (vC (.py (.int 1))) (vCons (vC (.py (.int 2))) (vCons (vC (.py (.int 3))) (vCons (vC (.py (.int 4))) (vCons (vVar 2) vNil)))))) (vCall S_law_pour (vCons (vVar 0) (vCons (vC (.py (.int 5))) vNil)))))
  (sSeq (sSet 4 (vLc [5] (iR1 (vCons (vBor 3) vNil)) (tgName 5) wYes (vBin gIx (vLst (vCons (vVar 5) (vCons (vBin gSub (vBin gPow (vC (.py (.int 10))) (vC (.py (.int 9)))) (vBor 5)) vNil))) (vCall S_law_pour (vCons (vVar 0) (vCons (vC (.py (.int 2))) vNil))))))
  (sRet (vCal gTuple (vCons (vLc [6] (iR1 (vCons (vBor 2) vNil)) (tgName 6) wYes (vBin gIx (vBor 4) (vCall S_law_pour (vCons (vVar 0) (vCons (vVar 3) vNil))))) vNil))))))
def t_j_mixed (S_law_pour : SV) : VS :=
  (sSeq (sPar [2, 3] (mCons true (vCal gList (vCons (vBor 1) vNil)) (mCons true (vLst vNil) mNil)))
  (sSeq (sWhile (vTst (vBin gNe (vBor 2) (vLst vNil)))
  (sPopApp 3 2 (vCall S_law_pour (vCons (vVar 0) (vCons (vCal gLen (vCons (vBor 2) vNil)) vNil)))))
  (sRet (vCal gTuple (vCons (vBor 3) vNil)))))
def t_is_number : VS :=
  (sRet (vAnd (vCal gIsi (vCons (vBor 0) (vCons (vC (.raw (.ty "int"))) vNil))) (vAnd (vNot (vCal gIsi (vCons (vBor 0) (vCons (vC (.raw (.ty "bool"))) vNil)))) (vChain gLe gLe (vBor 1) (vBor 0) (vBor 2)))))
def t_is_order (S_is_number : SV) : VS :=
  (sSeq (sIf (wOr (wNot (vTst (vCal gIsi (vCons (vBor 1) (vCons (vC (.raw (.ty "tuple"))) vNil))))) (vTst (vBin gNe (vCal gLen (vCons (vBor 1) vNil)) (vCal gLen (vCons (vBor 0) vNil)))))
  (sRet (vC (.py (.bool false))))
  sNext)
  (sRet (vAnd (vCal gAll (vCons (vLc [2] (iS (vBor 1)) (tgName 2) wYes (vCall S_is_number (vCons (vVar 2) (vCons (vC (.py (.int 0))) (vCons (vBin gSub (vCal gLen (vCons (vBor 0) vNil)) (vC (.py (.int 1)))) vNil))))) vNil)) (vBin gEq (vLenSet (vBor 1)) (vCal gLen (vCons (vBor 0) vNil))))))
end LawP
set_option Elab.async false
set_option linter.all false
set_option maxRecDepth 100000
set_option maxHeartbeats 4000000
namespace VL
open PySem PySem.Spec PyProof.Rows L2
/-! ### the sizes of lists of data -/
end VL
set_option Elab.async false
set_option linter.all false
set_option maxRecDepth 100000
set_option maxHeartbeats 4000000
namespace LawP
open PySem PySem.Spec PyProof.Rows L2 VL
/-! ### orders, plainly -/
theorem sub_perm : ∀ {ks ns : List Int}, ks.Nodup → (∀ j, j ∈ ks → j ∈ ns) → ∃ rest, ns.Perm (ks ++ rest)
  | [], ns, _, _ => ⟨ns, .refl _⟩
  | k :: ks, ns, hn, hs => by
    rw [List.nodup_cons] at hn
    have hk : k ∈ ns := hs k List.mem_cons_self
    obtain ⟨rest, h⟩ := sub_perm (ks := ks) (ns := ns.erase k) hn.2 fun j hj => by
      have ne : j ≠ k := fun e => hn.1 (e ▸ hj)
      exact (List.mem_erase_of_ne ne).mpr (hs j (List.mem_cons_of_mem _ hj))
    exact ⟨rest, (List.perm_cons_erase hk).trans (h.cons k)⟩
def rngI (n : Nat) : List Int := (List.range n).map fun i : Nat => (i : Int)
theorem rngI_len (n : Nat) : (rngI n).length = n := by simp [rngI]
theorem rngI_lt (n : Nat) : (rngI n).Pairwise (· < ·) := by
  unfold rngI
  rw [List.pairwise_map]
  exact List.pairwise_lt_range.imp fun h => by omega
theorem rngI_nodup (n : Nat) : (rngI n).Nodup := (rngI_lt n).imp fun h => by omega
theorem rngI_sorted (n : Nat) : (rngI n).Pairwise (· ≤ ·) := (rngI_lt n).imp fun h => by omega
theorem rngI_mem {n : Nat} {j : Int} : j ∈ rngI n ↔ 0 ≤ j ∧ j < n := by
  unfold rngI
  rw [List.mem_map]
  constructor
  · rintro ⟨i, hi, rfl⟩
    have := List.mem_range.mp hi
    omega
  · rintro ⟨h1, h2⟩
    exact ⟨j.toNat, List.mem_range.mpr (by omega), by omega⟩
theorem order_iff {n : Nat} {ns ks : List Int} (hl : ns.length = n) (hr : ∀ j ∈ ns, 0 ≤ j ∧ j < n) (hn : ks.Nodup) (hm : ∀ j, j ∈ ks ↔ j ∈ ns) : ks.length = n ↔ sortI ns = rngI n := by
  constructor
  · intro hk
    obtain ⟨r1, p1⟩ := sub_perm hn fun j h => (hm j).mp h
    obtain ⟨r2, p2⟩ := sub_perm (ns := rngI n) hn fun j h => rngI_mem.mpr (hr j ((hm j).mp h))
    have e1 : r1 = [] := by
      have := p1.length_eq
      rw [List.length_append] at this
      exact List.length_eq_zero_iff.mp (by omega)
    have e2 : r2 = [] := by
      have := p2.length_eq
      rw [List.length_append, rngI_len] at this
      exact List.length_eq_zero_iff.mp (by omega)
    subst e1 e2
    rw [List.append_nil] at p1 p2
    exact (sortI_eq (p2.trans p1.symm) (rngI_sorted n)).symm
  · intro h
    have p : ns.Perm (rngI n) := by rw [← h]; exact (sortI_perm ns).symm
    obtain ⟨r1, p1⟩ := sub_perm hn fun j hj => (p.mem_iff).mp ((hm j).mp hj)
    obtain ⟨r2, p2⟩ := sub_perm (rngI_nodup n) fun j hj => (hm j).mpr ((p.mem_iff).mpr hj)
    have l1 := p1.length_eq
    have l2 := p2.length_eq
    rw [List.length_append, rngI_len] at l1 l2
    omega
theorem order_range {n : Nat} {ns : List Int} (h : sortI ns = rngI n) : ∀ j ∈ ns, 0 ≤ j ∧ j < n := fun j hj => by
  have p : ns.Perm (rngI n) := by rw [← h]; exact (sortI_perm ns).symm
  exact rngI_mem.mp ((p.mem_iff).mp hj)
def isIntJ (p : PyData) (lo hi : Int) : Bool := match p with
  | .int i => decide (lo ≤ i) && decide (i ≤ hi)
  | _ => false
@[simp] def S_is_number : SV
  | [.py p, .py (.int lo), .py (.int hi)], Q, _ => Q (.py (.bool (isIntJ p lo hi)))
  | _, _, _ => False
theorem l_is_number : ∀ ds Q E, S_is_number ds Q E → t_is_number (envOf 3 ds) (fin Q E)
  | [.py p, .py (.int lo), .py (.int hi)], Q, E, q => by
    cases p <;> simp [t_is_number, isIntJ] at q ⊢ <;> try assumption
    rename_i i
    by_cases h : lo ≤ i <;> simp [h] at q ⊢ <;> exact q
/-- is it an order of n persons? -/
def ordB (n : Nat) (p : PyData) : Bool := match p with
  | .tuple xs => decide (xs.length = n) && (match VL.allI xs with
    | some ns => decide (sortI ns = rngI n)
    | none => false)
  | _ => false
@[simp] def S_is_order : SV := fun ds Q _ => ∃ (row : List Int) (p : PyData), ds = [.py (tI row), .py p] ∧ row ≠ [] ∧ row.length ≤ 40 ∧ Q (.py (.bool (ordB row.length p)))
theorem ints_eqv : ∀ (a b : List Int), PyData.eqvAll (a.map PyData.int) (b.map PyData.int) = decide (a = b)
  | [], [] => by simp [PyData.eqvAll]
  | [], _ :: _ => by simp [PyData.eqvAll]
  | _ :: _, [] => by simp [PyData.eqvAll]
  | x :: a, y :: b => by
    have := ints_eqv a b
    simp [PyData.eqvAll, this]
    by_cases h : x = y <;> simp [h]
abbrev notI (x : PyData) : Bool := !(dInt x && !dBool x)
theorem ints_or : ∀ xs : List PyData, (∃ ns : List Int, xs = ns.map PyData.int ∧ VL.allI xs = some ns ∧ xs.filter notI = []) ∨ (VL.allI xs = none ∧ ∃ y ys, xs.filter notI = y :: ys)
  | [] => .inl ⟨[], rfl, rfl, rfl⟩
  | x :: xs => by
    rcases ints_or xs with ⟨ns, h1, h2, h3⟩ | ⟨h1, y, ys, h2⟩
    · cases x
      case int i => exact .inl ⟨i :: ns, by rw [h1]; rfl, by simp [VL.allI, h2], by rw [List.filter_cons]; simp [dInt, dBool]; simpa using h3⟩
      all_goals exact .inr ⟨rfl, _, _, by rw [List.filter_cons]; simp [dInt, dBool]; exact ⟨rfl, rfl⟩⟩
    · cases x
      case int i => exact .inr ⟨by simp [VL.allI, h1], y, ys, by rw [List.filter_cons]; simp [dInt, dBool]; simpa using h2⟩
      all_goals exact .inr ⟨rfl, _, _, by rw [List.filter_cons]; simp [dInt, dBool]; exact ⟨rfl, rfl⟩⟩
theorem l_is_order : ∀ ds Q E, S_is_order ds Q E → t_is_order S_is_number (envOf 3 ds) (fin Q E) := by
  rintro ds Q E ⟨row, p, rfl, h0, h1, q⟩
  have hp : 0 < row.length := List.length_pos_iff.mpr h0
  cases p
  case tuple xs =>
    by_cases hl : xs.length = row.length
    · have el : (xs.map D.py) = (xs.map id).map D.py := by simp
      simp [t_is_order, hl, -lcGo]
      rw [el]
      refine lc_encM id (fun x => .bool (isIntJ x 0 ((row.length : Nat) - 1))) (fun i x hx k k1 => ?_) (by omega) ?_
      · simp [lcStep]
        exact k1
      · have eb : xs.map (fun x => PyData.bool (isIntJ x 0 ((row.length : Nat) - 1))) = (xs.map fun x => isIntJ x 0 ((row.length : Nat) - 1)).map PyData.bool := by simp
        rw [eb]
        refine ⟨_, allB_mk _, ?_⟩
        cases ha : ((xs.map fun x => isIntJ x 0 ((row.length : Nat) - 1)).all fun k => k) with
        | true =>
          have hall : ∀ x ∈ xs, isIntJ x 0 ((row.length : Nat) - 1) = true := by simpa using ha
          rcases ints_or xs with ⟨ns, e1, e2, e3⟩ | ⟨e2, y, ys, e3⟩
          · have hq : ordB row.length (.tuple xs) = decide (sortI ns = rngI row.length) := by simp [ordB, hl, e2]
            have hln : ns.length = row.length := by rw [← hl, e1]; simp
            have hr : ∀ j ∈ ns, 0 ≤ j ∧ j < (row.length : Nat) := fun j hj => by
              have := hall (.int j) (by rw [e1]; exact List.mem_map_of_mem hj)
              simp [isIntJ] at this
              omega
            simp
            refine ⟨ns, e2, by omega, fun ks k1 k2 => ?_⟩
            have io := order_iff hln hr k1 k2
            rw [hq] at q
            by_cases hk : ks.length = row.length
            · have e := io.mp hk
              rw [e] at q
              simpa [hk] using q
            · have e : ¬ sortI ns = rngI row.length := fun e => hk (io.mpr e)
              have hk2 : ((ks.length : Int) == (row.length : Int)) = false := by simp; omega
              rw [hk2]
              simpa [e] using q
          · exfalso
            have hy : y ∈ xs.filter notI := by rw [e3]; exact List.mem_cons_self
            obtain ⟨m1, m2⟩ := List.mem_filter.mp hy
            have := hall y m1
            cases y <;> simp [isIntJ, notI, dInt, dBool] at this m2
        | false =>
          have hq : ordB row.length (.tuple xs) = false := by
            rcases ints_or xs with ⟨ns, e1, e2, e3⟩ | ⟨e2, y, ys, e3⟩
            · have h2 : ¬ sortI ns = rngI row.length := fun e => by
                have hr := order_range e
                have : ((xs.map fun x => isIntJ x 0 ((row.length : Nat) - 1)).all fun k => k) = true := by
                  rw [e1]
                  simp [isIntJ]
                  intro j hj
                  have := hr j hj
                  omega
                rw [this] at ha
                cases ha
              simp [ordB, e2, h2]
            · simp [ordB, e2]
          rw [hq] at q
          simpa using q
    · have hi : ¬ (xs.length : Int) = row.length := by omega
      simp [ordB, hl] at q
      simp [t_is_order, hi]
      exact q
  all_goals (simp [t_is_order, ordB] at q ⊢; exact q)
@[simp] def S_j_row (r : Addr) : SV
  | [.raw v, .py (.int m)], Q, _ => v = .ref r ∧ 1 ≤ m ∧ m ≤ 40 ∧ ∀ gs : List Int, gs ≠ [] → gs.length ≤ m → (∀ g ∈ gs, 0 ≤ g ∧ g ≤ 1000000000) → Q (.py (tI gs))
  | _, _, _ => False
theorem permD_erase : ∀ {xs : List PyData} {k : Nat} (h : k < xs.length), xs.Perm (xs[k] :: xs.eraseIdx k)
  | x :: xs, 0, _ => .refl _
  | x :: xs, k + 1, h => by
    have h' : k < xs.length := by simpa using h
    have := permD_erase h'
    simp only [List.getElem_cons_succ, List.eraseIdx_cons_succ]
    exact (this.cons x).trans (List.Perm.swap _ _ _)
@[simp] def S_j_mixed (r : Addr) : SV := fun ds Q _ => ∃ (xs : List PyData) (p : PyData), ds = [.raw (.ref r), .py p] ∧ (p = .list xs ∨ p = .tuple xs) ∧ xs.length ≤ 1000 ∧ ∀ ys : List PyData, ys.Perm xs → Q (.py (.tuple ys))
theorem l_j_mixed (r : Addr) : ∀ ds Q E, S_j_mixed r ds Q E → t_j_mixed (svTake r) (envOf 4 ds) (fin Q E) := by
  rintro ds Q E ⟨xs, p, rfl, hp, h1, q⟩
  have go : ∀ p : PyData, sWhile (vTst (vBin gNe (vBor 2) (vLst vNil)))
      (sPopApp 3 2 (vCall (svTake r) (vCons (vVar 0) (vCons (vCal gLen (vCons (vBor 2) vNil)) vNil))))
      [.shr (.raw (.ref r)), .shr (.py p), .own (.py (.list xs)), .own (.py (.list []))] { (fin Q E) with nx := fun ρ => (sRet (vCal gTuple (vCons (vBor 3) vNil))) ρ (fin Q E) } := by
    intro p
    simp
    refine ⟨fun k ρ => ∃ ys zs : List PyData, ρ = [.shr (.raw (.ref r)), .shr (.py p), .own (.py (.list ys)), .own (.py (.list zs))] ∧ k = ys.length ∧ (ys ++ zs).Perm xs, ⟨_, xs, [], rfl, rfl, by simp⟩, ?_⟩
    rintro k ρ ⟨ys, zs, rfl, rfl, h2⟩
    have hl := h2.length_eq
    rw [List.length_append] at hl
    by_cases he : ys = []
    · subst he
      simp at h2 ⊢
      exact q zs h2
    · have hp : 0 < ys.length := List.length_pos_iff.mpr he
      simp [he]
      refine ⟨by omega, by omega, hp, by omega, fun x x0 x1 => ?_⟩
      obtain ⟨k, rfl⟩ : ∃ k : Nat, x = k := ⟨x.toNat, by omega⟩
      have hk : k < ys.length := by omega
      have le : (ys.eraseIdx k).length = ys.length - 1 := List.length_eraseIdx_of_lt hk
      refine ⟨k, rfl, ys[k], List.getElem?_eq_getElem hk, (ys.eraseIdx k).length, by omega, ys.eraseIdx k, zs ++ [ys[k]], ⟨rfl, rfl⟩, rfl, ?_⟩
      refine List.Perm.trans ?_ h2
      have := (permD_erase hk).append_right zs
      refine List.Perm.trans ?_ this.symm
      rw [← List.append_assoc, List.cons_append]
      exact List.perm_append_comm (l₁ := ys.eraseIdx k ++ zs) (l₂ := [ys[k]])
  rcases hp with rfl | rfl
  · have := go (.list xs)
    simpa [t_j_mixed, -sWhile] using this
  · have := go (.tuple xs)
    simpa [t_j_mixed, -sWhile] using this
end LawP
set_option Elab.async false
set_option linter.all false
set_option maxRecDepth 100000
set_option maxHeartbeats 4000000
namespace LawP
open PySem PySem.Spec PyProof.Rows L2 VL
def t_j_swapped (S_law_pour : SV) : VS :=
  (sSeq (sSetN 2 (vCal gList (vCons (vBor 1) vNil)))
  (sSeq (sFor (iR1 (vCons (vBin gAdd (vC (.py (.int 1))) (vCall S_law_pour (vCons (vVar 0) (vCons (vC (.py (.int 2))) vNil)))) vNil)) (tgName 3)
  (sSeq (sPopSet 4 2 (vCall S_law_pour (vCons (vVar 0) (vCons (vCal gLen (vCons (vBor 2) vNil)) vNil))))
  (sMut 2 gIns (vCons (vCall S_law_pour (vCons (vVar 0) (vCons (vBin gAdd (vCal gLen (vCons (vBor 2) vNil)) (vC (.py (.int 1)))) vNil))) (vCons (vVar 4) vNil)))))
  (sRet (vCal gTuple (vCons (vBor 2) vNil)))))
def t_require_order (S_is_order : SV) : VS :=
  (sIf (wNot (vTst (vCall S_is_order (vCons (vVar 0) (vCons (vVar 1) vNil)))))
  (sRaise0 "NoOrder")
  sNext)
def t_places_in : VS :=
  (sSeq (sSetN 1 (vBin gRepL (vLst (vCons (vC (.py (.int 0))) vNil)) (vCal gLen (vCons (vBor 0) vNil))))
  (sSeq (sFor (iEn (vCons (vVar 0) vNil)) (tgTup 2 (tgCons (tgName 2) (tgCons (tgName 3) tgNil)))
  (sStoL 1 (vVar 3) (vVar 2)))
  (sFrz 1 (sRet (vVar 1)))))
def t_kind_of : VS :=
  (sSeq (sIf (vTst (vBor 0))
  (sRet (vIf (vTst (vBor 1)) (vC (.py (.str "both"))) (vC (.py (.str "near")))))
  sNext)
  (sRet (vIf (vTst (vBor 1)) (vC (.py (.str "leads"))) (vC (.py (.str "none"))))))
def t_kinds_of (S_require_order : SV) (S_places_in : SV) (S_mates : SV) (S_kind_of : SV) : VS :=
  (sSeq (sExpr (vCall S_require_order (vCons (vVar 0) (vCons (vVar 1) vNil))))
  (sSeq (sPar [2, 3, 4] (mCons false (vCall S_places_in (vCons (vVar 1) vNil)) (mCons true (vLst vNil) (mCons false (vUn gNeg (vC (.py (.int 1)))) mNil))))
  (sSeq (sFor (iZ2 (vCons (vVar 2) (vCons (vCall S_mates (vCons (vVar 0) vNil)) vNil))) (tgTup 2 (tgCons (tgName 5) (tgCons (tgName 6) tgNil)))
  (sSeq (sSet 7 (vAnd (vBin (gIsN true) (vBor 6) (vC (.py .none))) (vBin gEq (vBor 5) (vBin gAdd (vBin gIx (vBor 2) (vBor 6)) (vC (.py (.int 1)))))))
  (sSeq (sMut 3 gApp (vCons (vCall S_kind_of (vCons (vVar 7) (vCons (vBin gGt (vBor 5) (vBor 4)) vNil))) vNil))
  (sSet 4 (vCal gMax (vCons (vBor 4) (vCons (vBor 5) vNil)))))))
  (sRet (vCal gTuple (vCons (vBor 3) vNil))))))
end LawP
set_option Elab.async false
set_option linter.all false
namespace LawP
open PySem VL
/-! ### words: the mathematics -/
def isL (c : Nat) : Bool := c == 97 || c == 115
/-- the places of signs that are no letters -/
def badW (w : List Nat) : List Nat := (w.zipIdx.filter fun p => !isL p.1).map (·.2)
/-- the first arrival or service too many: n persons, from place k on, behind a arrivals and s services -/
def scanP (n : Nat) : Nat → Nat → Nat → List Nat → PyData
  | _, _, _, [] => .none
  | k, a, s, c :: w => if c = 97 then (if a = n then .tuple [.int k, .str "arrival"] else scanP n (k + 1) (a + 1) s w) else (if s = a then .tuple [.int k, .str "service"] else scanP n (k + 1) a (s + 1) w)
def wErrL (n : Nat) (w : List Nat) : PyData := match badW w with
  | i :: _ => .tuple [.int (i : Nat), .str "letter"]
  | [] => scanP n 0 0 0 w
def wErr (n : Nat) : PyData → PyData
  | .str z => wErrL n (sl z)
  | _ => .tuple [.none, .str "string"]
/-- w is what is left of a history of n persons, behind a arrivals and s services -/
def goodW (n : Nat) : Nat → Nat → List Nat → Prop
  | a, s, [] => a = n ∧ s = n
  | a, s, c :: w => (c = 97 ∧ a < n ∧ goodW n (a + 1) s w) ∨ (c = 115 ∧ s < a ∧ goodW n a (s + 1) w)
/-- histories -/
def HistW (n : Nat) (w : List Nat) : Prop := goodW n 0 0 w
theorem goodW_len {n : Nat} : ∀ {w : List Nat} {a s : Nat}, goodW n a s w → w.length + a + s = 2 * n
  | [], a, s, ⟨h1, h2⟩ => by simp; omega
  | c :: w, a, s, h => by
    rcases h with ⟨_, _, h⟩ | ⟨_, _, h⟩
    · have := goodW_len h; simp; omega
    · have := goodW_len h; simp; omega
theorem HistW.len {n : Nat} {w : List Nat} (h : HistW n w) : w.length = 2 * n := by have := goodW_len h; omega
end LawP
set_option Elab.async false
set_option linter.all false
namespace LawP
open PySem VL
/-! ### the queue: the mathematics -/
/-- p stands at place i -/
def insAt (ws : List Nat) (i p : Nat) : List Nat := ws.take i ++ p :: ws.drop i
/-- where p joins: behind the mate, or at the end -/
def joinPl (ws : List Nat) (m : Option Nat) : Nat := match m with
  | some k => if k ∈ ws then ws.idxOf k + 1 else ws.length
  | none => ws.length
def joinQ (ws : List Nat) (p : Nat) (m : Option Nat) : List Nat := insAt ws (joinPl ws m) p
/-! ### words done -/
/-- a beginning of a history, behind a arrivals and s services -/
def okP (n : Nat) : Nat → Nat → List Nat → Prop
  | _, _, [] => True
  | a, s, c :: w => (c = 97 ∧ a < n ∧ okP n (a + 1) s w) ∨ (c = 115 ∧ s < a ∧ okP n a (s + 1) w)
/-- letter, person, waiting: for each letter -/
def stepsL (row : List Int) : Nat → List Nat → List Nat → List (Nat × Nat × List Nat)
  | _, _, [] => []
  | a, ws, c :: w => if c = 97 then (c, a, joinQ ws a (mateOf row a)) :: stepsL row (a + 1) (joinQ ws a (mateOf row a)) w else match ws with
    | x :: ws' => (c, x, ws') :: stepsL row a ws' w
    | [] => []
theorem stepsL_a (row : List Int) (a : Nat) (ws w : List Nat) : stepsL row a ws (97 :: w) = (97, a, joinQ ws a (mateOf row a)) :: stepsL row (a + 1) (joinQ ws a (mateOf row a)) w := rfl
theorem stepsL_s (row : List Int) (a x : Nat) (ws w : List Nat) : stepsL row a (x :: ws) (115 :: w) = (115, x, ws) :: stepsL row a ws w := rfl
/-- who was served -/
def servedL (st : List (Nat × Nat × List Nat)) : List Nat := (st.filter fun p => p.1 == 115).map fun p => p.2.1
/-- who waits at the end -/
def waitL (st : List (Nat × Nat × List Nat)) : List Nat := match st.getLast? with
  | some p => p.2.2
  | none => []
end LawP
set_option Elab.async false
set_option linter.all false
namespace VL
open PySem PySem.Spec PyProof.Rows L2 HT
@[simp] theorem atI_one {α : Type} (x y : α) (xs : List α) : atI (x :: y :: xs) 1 = some y := by have := @atI_nat _ (x :: y :: xs) 1 _ rfl; exact this
@[simp] theorem atI_two {α : Type} (x y z : α) (xs : List α) : atI (x :: y :: z :: xs) 2 = some z := by have := @atI_nat _ (x :: y :: z :: xs) 2 _ rfl; exact this
@[simp] theorem atI_three {α : Type} (x y z u : α) (xs : List α) : atI (x :: y :: z :: u :: xs) 3 = some u := by have := @atI_nat _ (x :: y :: z :: u :: xs) 3 _ rfl; exact this
end VL
namespace LawP
open PySem VL
/-! ### lists of persons -/
theorem pn_plain (ws : List Nat) : PyData.plainAll (ws.map pN) = true := by
  have : ws.map pN = (ws.map fun (n : Nat) => (n : Int)).map PyData.int := by rw [List.map_map]; rfl
  rw [this, plainAll_ints]
theorem pn_depth (ws : List Nat) : PyData.depthAll (ws.map pN) = 0 := by
  induction ws with
  | nil => rfl
  | cons w ws ih => rw [List.map_cons, depthAll_cons, ih]; rfl
theorem pn_ix {ws : List Nat} {k : Nat} (h : k ∈ ws) : ixOf (ws.map pN) (.int (k : Int)) = some (ws.idxOf k) := by
  induction ws with
  | nil => simp at h
  | cons w ws ih =>
    rw [List.map_cons, ixOf, List.idxOf_cons]
    by_cases e : w = k
    · have e1 : (pN w).eqv (.int (k : Int)) = true := by subst e; simp [pN]
      rw [if_pos e1, e]; simp
    · have e1 : ¬ (pN w).eqv (.int (k : Int)) = true := by simp [pN]; omega
      have e2 : (w == k) = false := beq_eq_false_iff_ne.mpr e
      have hk : k ∈ ws := by rcases List.mem_cons.mp h with h | h; exact absurd h.symm e; exact h
      rw [if_neg e1, ih hk, e2]; rfl
theorem drop_at' {α : Type} {w : List α} {k : Nat} {c : α} (hc : w[k]? = some c) : w.drop k = c :: w.drop (k + 1) := by
  have hk := (List.getElem?_eq_some_iff.mp hc).1
  rw [List.drop_eq_getElem_cons hk]
  congr 1
  exact (List.getElem?_eq_some_iff.mp hc).2
/-! ### what a word leads to -/
/-- the order of service -/
def ordL (row : List Int) (w : List Nat) : List Nat := servedL (stepsL row 0 [] w)
/-- the mate waits -/
def joinB (row : List Int) (ws : List Nat) (a : Nat) : Bool := match mateOf row a with
  | some m => decide (m ∈ ws)
  | none => false
/-- who joins the mate -/
def joinsL (row : List Int) : Nat → List Nat → List Nat → List Nat
  | _, _, [] => []
  | a, ws, c :: w => if c = 97 then (if joinB row ws a = true then [a] else []) ++ joinsL row (a + 1) (joinQ ws a (mateOf row a)) w else joinsL row a ws.tail w
/-- services before each arrival -/
def cntsL : Nat → List Nat → List Nat
  | _, [] => []
  | s, c :: w => if c = 97 then s :: cntsL s w else cntsL (s + 1) w
theorem joinsL_a (row : List Int) (a : Nat) (ws w : List Nat) : joinsL row a ws (97 :: w) = (if joinB row ws a = true then [a] else []) ++ joinsL row (a + 1) (joinQ ws a (mateOf row a)) w := rfl
theorem joinsL_s (row : List Int) (a : Nat) (ws w : List Nat) : joinsL row a ws (115 :: w) = joinsL row a ws.tail w := rfl
theorem cntsL_a (s : Nat) (w : List Nat) : cntsL s (97 :: w) = s :: cntsL s w := rfl
theorem cntsL_s (s : Nat) (w : List Nat) : cntsL s (115 :: w) = cntsL (s + 1) w := rfl
theorem servedL_a (x : Nat) (y : List Nat) (L : List (Nat × Nat × List Nat)) : servedL ((97, x, y) :: L) = servedL L := by simp [servedL]
theorem servedL_s (x : Nat) (y : List Nat) (L : List (Nat × Nat × List Nat)) : servedL ((115, x, y) :: L) = x :: servedL L := by simp [servedL]
theorem goodW_okP {n : Nat} : ∀ {w : List Nat} {a s : Nat}, goodW n a s w → okP n a s w
  | [], _, _, _ => trivial
  | c :: w, a, s, h => by
    rcases h with ⟨e, ha, h⟩ | ⟨e, ha, h⟩
    · exact .inl ⟨e, ha, goodW_okP h⟩
    · exact .inr ⟨e, ha, goodW_okP h⟩
end LawP
set_option Elab.async false
set_option linter.all false
set_option maxRecDepth 100000
set_option maxHeartbeats 4000000
namespace LawP
open PySem PySem.Spec PyProof.Rows L2 VL
/-! ### orders as lists of persons -/
theorem tI_cast (ms : List Nat) : tI (ms.map fun (n : Nat) => (n : Int)) = tN ms := by
  unfold tI tN; rw [List.map_map]; rfl
theorem cast_toNat {ns : List Int} (pos : ∀ j ∈ ns, 0 ≤ j) : (ns.map Int.toNat).map (fun (n : Nat) => (n : Int)) = ns := by
  induction ns with
  | nil => rfl
  | cons x xs ih =>
    have h1 := pos x List.mem_cons_self
    have h2 := ih fun j hj => pos j (List.mem_cons_of_mem _ hj)
    rw [List.map_cons, List.map_cons, h2]
    congr 1
    omega
theorem rngI_nat (n : Nat) : (rngI n).map Int.toNat = List.range n := by
  unfold rngI
  rw [List.map_map]
  have : (Int.toNat ∘ fun (i : Nat) => (i : Int)) = id := by funext i; simp
  rw [this, List.map_id]
theorem ordB_iff {n : Nat} {p : PyData} : ordB n p = true ↔ ∃ ms : List Nat, p = tN ms ∧ ms.Perm (List.range n) := by
  constructor
  · intro h
    cases p <;> simp [ordB] at h
    rename_i xs
    obtain ⟨h1, h2⟩ := h
    cases e : VL.allI xs with
    | none => rw [e] at h2; cases h2
    | some ns =>
      rw [e] at h2
      simp at h2
      have ex := allI_of e
      have p : ns.Perm (rngI n) := by rw [← h2]; exact (sortI_perm ns).symm
      have pos : ∀ j ∈ ns, 0 ≤ j := fun j hj => (rngI_mem.mp ((p.mem_iff).mp hj)).1
      refine ⟨ns.map Int.toNat, ?_, ?_⟩
      · rw [← tI_cast, cast_toNat pos, ex]; rfl
      · rw [← rngI_nat n]
        exact p.map _
  · rintro ⟨ms, rfl, hp⟩
    have hl : ms.length = n := by have := hp.length_eq; simpa using this
    have hs : sortI (ms.map fun (k : Nat) => (k : Int)) = rngI n := (sortI_eq (hp.map _).symm (rngI_sorted n)).symm
    simp [ordB, tN, hl, allI_pN, hs]
theorem ordB_tN {ms : List Nat} {n : Nat} (h : ms.Perm (List.range n)) : ordB n (tN ms) = true := ordB_iff.mpr ⟨ms, rfl, h⟩
theorem perm_nodup {ms : List Nat} {n : Nat} (h : ms.Perm (List.range n)) : ms.Nodup := h.symm.nodup List.nodup_range
theorem perm_len {ms : List Nat} {n : Nat} (h : ms.Perm (List.range n)) : ms.length = n := by have := h.length_eq; simpa using this
theorem perm_mem {ms : List Nat} {n k : Nat} (h : ms.Perm (List.range n)) : k ∈ ms ↔ k < n := by rw [h.mem_iff]; exact List.mem_range
@[simp] def S_require_order : SV := fun ds Q E => ∃ (row : List Int) (p : PyData), ds = [.py (tI row), .py p] ∧ row ≠ [] ∧ row.length ≤ 40 ∧ (ordB row.length p = true → Q (.py .none)) ∧ (ordB row.length p = false → E ⟨"NoOrder", []⟩)
theorem l_require_order : ∀ ds Q E, S_require_order ds Q E → t_require_order S_is_order (envOf 2 ds) (fin Q E) := by
  rintro ds Q E ⟨row, p, rfl, h0, h1, q1, q2⟩
  simp [t_require_order]
  refine ⟨row, p, ⟨rfl, rfl⟩, h0, h1, ?_⟩
  cases h : ordB row.length p with
  | true => simpa [h] using q1 h
  | false => simpa [h] using q2 h
/-- the kind of a person -/
def kindS (near ahead : Bool) : Str := if near then (if ahead then "both" else "near") else (if ahead then "leads" else "none")
@[simp] def S_kind_of : SV
  | [.py (.bool a), .py (.bool b)], Q, _ => Q (.py (.str (kindS a b)))
  | _, _, _ => False
theorem l_kind_of : ∀ ds Q E, S_kind_of ds Q E → t_kind_of (envOf 2 ds) (fin Q E)
  | [.py (.bool a), .py (.bool b)], Q, E, q => by
    cases a <;> cases b <;> simp [t_kind_of, kindS] at q ⊢ <;> exact q
theorem perm_eraseIdx : ∀ {xs : List Nat} {k : Nat} (h : k < xs.length), xs.Perm (xs[k] :: xs.eraseIdx k)
  | x :: xs, 0, _ => .refl _
  | x :: xs, k + 1, h => by
    have h' : k < xs.length := by simpa using h
    have := perm_eraseIdx h'
    simp only [List.getElem_cons_succ, List.eraseIdx_cons_succ]
    exact (this.cons x).trans (List.Perm.swap _ _ _)
theorem erase_mapN : ∀ (ys : List Nat) (k : Nat), (ys.map pN).eraseIdx k = (ys.eraseIdx k).map pN
  | [], _ => rfl
  | _ :: _, 0 => rfl
  | y :: ys, k + 1 => by simp [erase_mapN ys k]
/-- pop and insert keep the persons -/
@[simp] def S_j_swapped (r : Addr) : SV := fun ds Q _ => ∃ ms : List Nat, ds = [.raw (.ref r), .py (tN ms)] ∧ ms ≠ [] ∧ ms.length ≤ 40 ∧ ∀ ns : List Nat, ns.Perm ms → Q (.py (tN ns))
theorem l_j_swapped (r : Addr) : ∀ ds Q E, S_j_swapped r ds Q E → t_j_swapped (svTake r) (envOf 5 ds) (fin Q E) := by
  rintro ds Q E ⟨ms, rfl, h0, h1, q⟩
  have hp : 0 < ms.length := List.length_pos_iff.mpr h0
  simp [t_j_swapped, -forGo]
  refine fun x x0 x1 => ⟨by omega, ?_⟩
  rw [rangeP_eq]
  refine for_enc (encR 0) (fun _ ρ => ∃ (ns : List Nat) (a b : VL.Slot), ρ = [.shr (.raw (.ref r)), .shr (.py (tN ms)), .own (.py (.list (ns.map pN))), a, b] ∧ ns.Perm ms) ⟨ms, _, _, rfl, .refl _⟩ (fun i y ρ hy iv nx ct hn => ?_) (fun ρ iv => ?_)
  · obtain ⟨ns, a, b, rfl, pm⟩ := iv
    have hl := pm.length_eq
    simp
    refine ⟨by omega, by omega, by omega, fun z z0 z1 => ?_⟩
    obtain ⟨k, rfl⟩ : ∃ k : Nat, z = k := ⟨z.toNat, by omega⟩
    have hk : k < ns.length := by omega
    have le : (ns.eraseIdx k).length = ns.length - 1 := List.length_eraseIdx_of_lt hk
    refine ⟨k, rfl, pN ns[k], ⟨ns[k], List.getElem?_eq_getElem hk, rfl⟩, ?_⟩
    rw [erase_mapN]
    simp only [List.length_map]
    refine ⟨by omega, fun u u0 u1 => ⟨by omega, u0, by omega, (hn _ ⟨(ns.eraseIdx k).take u.toNat ++ ns[k] :: (ns.eraseIdx k).drop u.toNat, .shr (.py (.int (y : Nat))), .shr (.py (pN ns[k])), by rw [List.map_append, List.map_cons, List.map_take, List.map_drop]; rfl, ?_⟩).1⟩⟩
    refine List.Perm.trans ?_ pm
    refine (List.perm_middle).trans ?_
    rw [List.take_append_drop]
    exact (perm_eraseIdx hk).symm
  · obtain ⟨ns, a, b, rfl, pm⟩ := iv
    simp
    exact q ns pm
def toN : PyData → Nat
  | .int i => i.toNat
  | _ => 0
theorem toN_pN (L : List Nat) : (L.map pN).map toN = L := by
  rw [List.map_map]
  have : toN ∘ pN = id := by funext k; simp [toN, pN]
  rw [this, List.map_id]
theorem perm_pN {ys : List PyData} {L : List Nat} (h : ys.Perm (L.map pN)) : ∃ ms : List Nat, ys = ms.map pN ∧ ms.Perm L := by
  refine ⟨ys.map toN, ?_, by have := h.map toN; rwa [toN_pN] at this⟩
  rw [List.map_map]
  have : ∀ y ∈ ys, (pN ∘ toN) y = y := fun y hy => by
    obtain ⟨k, _, rfl⟩ := List.mem_map.mp ((h.mem_iff).mp hy)
    simp [toN, pN]
  exact ((List.map_congr_left this).trans (List.map_id ys)).symm
theorem rangeP_pN (n : Nat) : rangeP 0 n = (List.range n).map pN := by
  rw [rangeP_eq]
  exact List.map_congr_left fun k _ => by rw [encR0]; rfl
/-! ### places -/
def placesL (ms : List Nat) : List Nat := (List.range ms.length).map fun k => ms.idxOf k
theorem idx_get {ms : List Nat} {k : Nat} (h : k ∈ ms) : ms[ms.idxOf k]? = some k := by
  have := List.idxOf_lt_length_of_mem h
  rw [List.getElem?_eq_getElem this]
  simp
@[simp] def S_places_in : SV := fun ds Q _ => ∃ (ms : List Nat) (b : Bool), ds = [.py (cond b (tN ms) (.list (ms.map pN)))] ∧ ms.length ≤ 40 ∧ ms.Perm (List.range ms.length) ∧ Q (.py (.list ((placesL ms).map pN)))
theorem l_places_in : ∀ ds Q E, S_places_in ds Q E → t_places_in (envOf 4 ds) (fin Q E) := by
  rintro ds Q E ⟨ms, b, rfl, h1, hp, q⟩
  cases b <;> simp [t_places_in, -forGo]
  all_goals
    refine ⟨by omega, ?_⟩
    have e0 : List.replicate ms.length (PyData.int 0) = (List.replicate ms.length 0).map pN := by simp [pN]
    rw [e0]
    refine for_inv (fun i ρ => ∃ (pl : List Nat) (z x y : VL.Slot), ρ = [z, .own (.py (.list (pl.map pN))), x, y] ∧ pl.length = ms.length ∧ ∀ j, j < i → ∀ m, ms[j]? = some m → pl[m]? = some j) (fun i p ρ hx iv nx ct hn => ?_) (fun ρ iv => ?_) ⟨_, _, _, _, rfl, by simp, by simp⟩
    · obtain ⟨pl, z, x, y, rfl, hl, h3⟩ := iv
      obtain ⟨m, hm, rfl⟩ := enumP_getD hx
      have hmm := (perm_mem hp).mp (List.mem_of_getElem? hm)
      simp
      refine ⟨(pl.set m i).map pN, ?_, (hn _ ⟨pl.set m i, z, .shr (.py (.int (i : Nat))), .shr (.py (pN m)), rfl, by simpa using hl, fun j hj m' hm' => ?_⟩).1⟩
      · unfold setAt
        rw [show ixN (pl.map pN).length (m : Int) = some m by unfold ixN; simp; omega]
        simp [pN]
      · by_cases e : j = i
        · subst e
          rw [hm] at hm'
          cases hm'
          rw [List.getElem?_set_self (by omega)]
        · have hmm' := (perm_mem hp).mp (List.mem_of_getElem? hm')
          have ne : m ≠ m' := fun e2 => by
            subst e2
            exact e ((List.getElem?_inj (List.getElem?_eq_some_iff.mp hm').1 (perm_nodup hp)).mp (hm'.trans hm.symm))
          rw [List.getElem?_set_ne (by omega)]
          exact h3 j (by omega) m' hm'
    · obtain ⟨pl, z, x, y, rfl, hl, h3⟩ := iv
      simp
      have e : pl = placesL ms := by
        refine List.ext_getElem? fun k => ?_
        by_cases hk : k < ms.length
        · have hkm := (perm_mem hp).mpr hk
          have hg := idx_get hkm
          have := h3 _ (by have := List.idxOf_lt_length_of_mem hkm; simpa [enumP_len] using this) k hg
          rw [this]
          simp [placesL, hk]
        · rw [List.getElem?_eq_none (by omega), List.getElem?_eq_none (by simp [placesL]; omega)]
      subst e
      exact q
@[simp] theorem lit_aH : Str.ofString "a" = mkS [97] := by decide +kernel
@[simp] theorem lit_sH : Str.ofString "s" = mkS [115] := by decide +kernel
@[simp] theorem lit_0 : Str.ofString "" = mkS [] := by decide +kernel
@[simp] def S_j_word (r : Addr) : SV := fun ds Q _ => ∃ n : Nat, ds = [.raw (.ref r), .py (.int (n : Nat))] ∧ n ≤ 40 ∧ ∀ w, HistW n w → Q (.py (.str (mkS w)))
@[simp] def S_j_mate : SV := fun ds Q _ => ∃ (row : List Int) (i : Nat), ds = [.py (tI row), .py (.int (i : Nat))] ∧ i < row.length ∧ row.length ≤ 40 ∧ Q (.py (oN (mateOf row i)))
/-- the earlier ones of the group -/
def kin (row : List Int) (i : Nat) : List Nat := (List.range i).filter fun k => row[k]? == row[i]?
/-! ### the law's own queue -/
theorem idx_app {L : List Nat} {x : Nat} (h : x ∈ L) : L.idxOf x < L.length := List.idxOf_lt_length_of_mem h
@[simp] def S_j_run : SV := fun ds Q _ => ∃ (row : List Int) (w : List Nat), ds = [.py (tI row), .py (.str (mkS w))] ∧ row.length ≤ 40 ∧ w.length ≤ 1000 ∧ okP row.length 0 0 w ∧
  Q (.py (.list [tN (ordL row w), tN (joinsL row 0 [] w), tN (cntsL 0 w)]))
theorem ins_pN (ws : List Nat) (i p : Nat) : (ws.map pN).take i ++ pN p :: (ws.map pN).drop i = (insAt ws i p).map pN := by
  simp [insAt]
/-! ### kinds -/
def nearB (row : List Int) (ms : List Nat) (i : Nat) : Bool := match mateOf row i with
  | none => false
  | some m => decide (ms.idxOf i = ms.idxOf m + 1)
def leadB (ms : List Nat) (k : Nat) : Bool := (List.range k).all fun j => decide (ms.idxOf j < ms.idxOf k)
def kindL (row : List Int) (ms : List Nat) : List Str := (List.range row.length).map fun k => kindS (nearB row ms k) (leadB ms k)
theorem beq_succ (a b : Nat) : ((a : Int) == (b : Int) + 1) = decide (a = b + 1) := by
  by_cases c : a = b + 1
  · simp [c]
  · have : ¬ (a : Int) = (b : Int) + 1 := by omega
    simp [c, this]
theorem zip_range2 {n : Nat} (f g : Nat → PyData) : zip2P ((List.range n).map f) ((List.range n).map g) = (List.range n).map fun k => PyData.tuple [f k, g k] := by
  unfold zip2P
  rw [List.zip_map', List.map_map]
  rfl
@[simp] def S_j_leads : SV := fun ds Q _ => ∃ (ms : List Nat) (k : Nat), ds = [.py (tN ms), .py (.int (k : Nat))] ∧ ms.Perm (List.range ms.length) ∧ k < ms.length ∧ ms.length ≤ 40 ∧ Q (.py (.bool (leadB ms k)))
@[simp] def S_j_is_near : SV := fun ds Q _ => ∃ (row : List Int) (ms : List Nat) (i : Nat), ds = [.py (tI row), .py (tN ms), .py (.int (i : Nat))] ∧ i < row.length ∧ row.length ≤ 40 ∧ ms.Perm (List.range row.length) ∧ Q (.py (.bool (nearB row ms i)))
@[simp] def S_kinds_of : SV := fun ds Q E => ∃ (row : List Int) (p : PyData), ds = [.py (tI row), .py p] ∧ row ≠ [] ∧ row.length ≤ 40 ∧ (∀ ms, p = tN ms → ms.Perm (List.range row.length) → Q (.py (.tuple ((kindL row ms).map PyData.str)))) ∧ (ordB row.length p = false → E ⟨"NoOrder", []⟩)
theorem l_kinds_of : ∀ ds Q E, S_kinds_of ds Q E → t_kinds_of S_require_order S_places_in S_mates S_kind_of (envOf 8 ds) (fin Q E) := by
  rintro ds Q E ⟨row, p, rfl, h0, h1, q1, q2⟩
  simp [t_kinds_of, -forGo, -S_places_in, -S_mates, -S_kind_of]
  refine ⟨row, p, ⟨rfl, rfl⟩, h0, h1, fun ho => ?_, q2⟩
  obtain ⟨ms, rfl, hp⟩ := ordB_iff.mp ho
  have q := q1 ms rfl hp
  have hl := perm_len hp
  refine ⟨ms, true, rfl, by omega, by rw [hl]; exact hp, ?_⟩
  simp [matesP, -forGo]
  refine ⟨by omega, ?_⟩
  have e1 : (placesL ms).map pN = (List.range row.length).map fun k => pN (ms.idxOf k) := by
    unfold placesL; rw [hl, List.map_map]; rfl
  have e2 : (matesL row).map oN = (List.range row.length).map fun k => oN (mateOf row k) := by
    unfold matesL; rw [List.map_map]; rfl
  have ez : zip2P ((placesL ms).map pN) ((matesL row).map oN) = (List.range row.length).map fun k => PyData.tuple [pN (ms.idxOf k), oN (mateOf row k)] := by
    rw [e1, e2, zip_range2]
  rw [ez]
  refine for_enc (fun k => PyData.tuple [pN (ms.idxOf k), oN (mateOf row k)]) (fun i ρ => ∃ (last : Int) (x y z : VL.Slot), ρ = [.shr (.py (tI row)), .shr (.py (tN ms)), .shr (.py (.list ((placesL ms).map pN))), .own (.py (.list ((List.range i).map fun k => PyData.str (kindS (nearB row ms k) (leadB ms k))))), .shr (.py (.int last)), x, y, z] ∧
    (∀ j, j < i → (ms.idxOf j : Int) ≤ last) ∧ (last = -1 ∨ ∃ j, j < i ∧ last = (ms.idxOf j : Nat))) ⟨-1, _, _, _, rfl, fun j hj => by omega, .inl rfl⟩ (fun i k ρ hk iv nx ct hn => ?_) (fun ρ iv => ?_)
  · obtain ⟨last, x, y, z, rfl, i1, i2⟩ := iv
    obtain ⟨rfl, hk⟩ := range_get hk
    have hld : decide (last < (ms.idxOf k : Nat)) = leadB ms k := by
      rw [Bool.eq_iff_iff, decide_eq_true_eq]
      unfold leadB
      rw [List.all_eq_true]
      constructor
      · intro h j hj
        have := i1 j (List.mem_range.mp hj)
        simp only [decide_eq_true_eq]
        omega
      · intro h
        rcases i2 with rfl | ⟨j, hj, rfl⟩
        · omega
        · have := h j (List.mem_range.mpr hj)
          simp only [decide_eq_true_eq] at this
          omega
    have step : ∀ (x y z : VL.Slot), nx [.shr (.py (tI row)), .shr (.py (tN ms)), .shr (.py (.list ((placesL ms).map pN))), .own (.py (.list (((List.range k).map fun k => PyData.str (kindS (nearB row ms k) (leadB ms k))) ++ [PyData.str (kindS (nearB row ms k) (leadB ms k))]))), .shr (.py (.int (max last (ms.idxOf k : Nat)))), x, y, z] := fun x y z => by
      refine (hn _ ⟨max last (ms.idxOf k : Nat), x, y, z, by rw [List.range_succ, List.map_append]; rfl, fun j hj => ?_, ?_⟩).1
      · by_cases e : j = k
        · subst e; omega
        · have := i1 j (by omega); omega
      · rcases i2 with rfl | ⟨j, hj, rfl⟩
        · exact .inr ⟨k, by omega, by omega⟩
        · by_cases c : ms.idxOf j ≤ ms.idxOf k
          · exact .inr ⟨k, by omega, by omega⟩
          · exact .inr ⟨j, by omega, by omega⟩
    have hnr : nearB row ms k = match mateOf row k with
      | none => false
      | some m => decide (ms.idxOf k = ms.idxOf m + 1) := rfl
    cases hm : mateOf row k with
    | none =>
      rw [hm] at hnr
      simp only at hnr
      rw [hnr, ← hld] at step
      simp [oN, pN]
      exact ⟨by omega, step _ _ _⟩
    | some m =>
      rw [hm] at hnr
      simp only at hnr
      have hmr := (mateOf_lt hm).1
      have ha : atI ((placesL ms).map pN) (m : Int) = some (pN (ms.idxOf m)) := atI_map (by unfold placesL; rw [List.getElem?_map, List.getElem?_range (by omega)]; rfl)
      rw [hnr, ← hld] at step
      simp [oN]
      refine ⟨_, ha, ?_⟩
      simp [pN, beq_succ]
      exact ⟨by omega, step _ _ _⟩
  · obtain ⟨last, x, y, z, rfl, i1, i2⟩ := iv
    simp at q ⊢
    simpa [kindL, Function.comp_def] using q
end LawP
set_option Elab.async false
set_option linter.all false
set_option maxRecDepth 100000
set_option maxHeartbeats 4000000
namespace LawP
open PySem PySem.Spec PyProof.Rows L2 VL
def t_misplaced (S_kinds_of : SV) : VS :=
  (sRet (vCal gTuple (vCons (vLc [2, 3] (iEn (vCons (vCall S_kinds_of (vCons (vVar 0) (vCons (vVar 1) vNil))) vNil)) (tgTup 2 (tgCons (tgName 2) (tgCons (tgName 3) tgNil))) (vTst (vBin gEq (vBor 3) (vC (.py (.str "none"))))) (vVar 2)) vNil)))
def t_least_counts (S_places_in : SV) (S_kinds_of : SV) (S_mates : SV) : VS :=
  (sSeq (sPar [2, 3, 4] (mCons false (vCall S_kinds_of (vCons (vVar 0) (vCons (vVar 1) vNil))) (mCons false (vCall S_places_in (vCons (vVar 1) vNil)) (mCons true (vLst vNil) mNil))))
  (sSeq (sFor (iZ2 (vCons (vVar 2) (vCons (vCall S_mates (vCons (vVar 0) vNil)) vNil))) (tgTup 2 (tgCons (tgName 5) (tgCons (tgName 6) tgNil)))
  (sMut 4 gApp (vCons (vIf (wAnd (vTst (vBin gEq (vBor 5) (vC (.py (.str "leads"))))) (vTst (vBin (gIsN true) (vBor 6) (vC (.py .none))))) (vBin gAdd (vBin gIx (vBor 3) (vBor 6)) (vC (.py (.int 1)))) (vC (.py (.int 0)))) vNil)))
  (sFrz 4 (sRet (vVar 4)))))
def t_greatest_counts (S_places_in : SV) (S_kinds_of : SV) (S_mates : SV) : VS :=
  (sSeq (sPar [2, 3, 4] (mCons false (vCall S_kinds_of (vCons (vVar 0) (vCons (vVar 1) vNil))) (mCons false (vCall S_places_in (vCons (vVar 1) vNil)) (mCons true (vLst vNil) mNil))))
  (sSeq (sFor (iZ3 (vCons (vVar 2) (vCons (vCall S_mates (vCons (vVar 0) vNil)) (vCons (vVar 3) vNil)))) (tgTup 3 (tgCons (tgName 5) (tgCons (tgName 6) (tgCons (tgName 7) tgNil))))
  (sMut 4 gApp (vCons (vIf (vTst (vBin gEq (vBor 5) (vC (.py (.str "near"))))) (vBin gIx (vBor 3) (vBor 6)) (vVar 7)) vNil)))
  (sFrz 4 (sRet (vVar 4)))))
def t_clashes (S_greatest_counts : SV) (S_least_counts : SV) : VS :=
  (sSeq (sPar [2, 3] (mCons false (vCall S_least_counts (vCons (vVar 0) (vCons (vVar 1) vNil))) (mCons false (vCall S_greatest_counts (vCons (vVar 0) (vCons (vVar 1) vNil))) mNil)))
  (sSeq (sSetN 4 (vLst vNil))
  (sSeq (sFor (iR1 (vCons (vCal gLen (vCons (vBor 0) vNil)) vNil)) (tgName 5)
  (sMut 4 gExt (vCons (vLc [6] (iR2 (vCons (vBin gAdd (vBor 5) (vC (.py (.int 1)))) (vCons (vCal gLen (vCons (vBor 0) vNil)) vNil))) (tgName 6) (vTst (vBin gGt (vBin gIx (vBor 2) (vBor 5)) (vBin gIx (vBor 3) (vBor 6)))) (vTup (vCons (vVar 5) (vCons (vVar 6) vNil)))) vNil)))
  (sRet (vCal gTuple (vCons (vBor 4) vNil))))))
end LawP
set_option Elab.async false
set_option linter.all false
set_option maxRecDepth 100000
set_option maxHeartbeats 4000000
namespace LawP
open PySem PySem.Spec PyProof.Rows L2 VL
/-! ### demands, plainly -/
def lowD (row : List Int) (ms : List Nat) (k : Nat) : Nat := match mateOf row k with
  | some m => if (!nearB row ms k && leadB ms k) = true then ms.idxOf m + 1 else 0
  | none => 0
def highD (row : List Int) (ms : List Nat) (k : Nat) : Nat := match mateOf row k with
  | some m => if (nearB row ms k && !leadB ms k) = true then ms.idxOf m else ms.idxOf k
  | none => ms.idxOf k
def lowsL (row : List Int) (ms : List Nat) : List Nat := (List.range row.length).map (lowD row ms)
def highsL (row : List Int) (ms : List Nat) : List Nat := (List.range row.length).map (highD row ms)
def wrongL (row : List Int) (ms : List Nat) : List Nat := (List.range row.length).filter fun k => !leadB ms k && !nearB row ms k
def clashRow (row : List Int) (ms : List Nat) (a : Nat) : List (Nat × Nat) := ((List.range (row.length - (a + 1))).filter fun j => decide (highD row ms (a + 1 + j) < lowD row ms a)).map fun j => (a, a + 1 + j)
def clashN (row : List Int) (ms : List Nat) (n : Nat) : List (Nat × Nat) := (List.range n).flatMap (clashRow row ms)
def clashL (row : List Int) (ms : List Nat) : List (Nat × Nat) := clashN row ms row.length
def pairP (p : Nat × Nat) : PyData := .tuple [pN p.1, pN p.2]
theorem kindS_none (a b : Bool) : (kindS a b == Str.ofString "none") = (!b && !a) := by cases a <;> cases b <;> decide +kernel
theorem kindS_leads (a b : Bool) : (kindS a b == Str.ofString "leads") = (!a && b) := by cases a <;> cases b <;> decide +kernel
theorem kindS_near (a b : Bool) : (kindS a b == Str.ofString "near") = (a && !b) := by cases a <;> cases b <;> decide +kernel
theorem kindL_map (row : List Int) (ms : List Nat) : (kindL row ms).map PyData.str = (List.range row.length).map fun k => PyData.str (kindS (nearB row ms k) (leadB ms k)) := by
  unfold kindL; rw [List.map_map]; rfl
theorem matesL_map (row : List Int) : (matesL row).map oN = (List.range row.length).map fun k => oN (mateOf row k) := by
  unfold matesL; rw [List.map_map]; rfl
theorem placesL_map {ms : List Nat} {n : Nat} (h : ms.length = n) : (placesL ms).map pN = (List.range n).map fun k => pN (ms.idxOf k) := by
  unfold placesL; rw [h, List.map_map]; rfl
theorem zip_range3 {n : Nat} (f g h : Nat → PyData) : zip3P ((List.range n).map f) ((List.range n).map g) ((List.range n).map h) = (List.range n).map fun k => PyData.tuple [f k, g k, h k] := by
  unfold zip3P
  rw [List.zip_map', List.zip_map', List.map_map]
  rfl
@[simp] def S_misplaced : SV := fun ds Q E => ∃ (row : List Int) (p : PyData), ds = [.py (tI row), .py p] ∧ row ≠ [] ∧ row.length ≤ 40 ∧ (∀ ms, p = tN ms → ms.Perm (List.range row.length) → Q (.py (tN (wrongL row ms)))) ∧ (ordB row.length p = false → E ⟨"NoOrder", []⟩)
theorem enum_range {n : Nat} (f : Nat → PyData) : enumP ((List.range n).map f) = (List.range n).map fun k => PyData.tuple [.int (k : Nat), f k] := by
  refine List.ext_getElem? fun i => ?_
  rw [enumP_enc, List.getElem?_map, List.getElem?_map, List.getElem?_zipIdx]
  by_cases h : i < n
  · rw [List.getElem?_range h]; simp [encE]
  · rw [List.getElem?_eq_none (by simpa using h)]; rfl
theorem l_misplaced : ∀ ds Q E, S_misplaced ds Q E → t_misplaced S_kinds_of (envOf 4 ds) (fin Q E) := by
  rintro ds Q E ⟨row, p, rfl, h0, h1, q1, q2⟩
  simp [t_misplaced, -lcGo, -S_kinds_of]
  refine ⟨row, p, rfl, h0, h1, fun ms e hp => ?_, q2⟩
  subst e
  have q := q1 ms rfl hp
  simp [kindL_map, enum_range, -lcGo]
  refine lc_encF' (fun k => PyData.tuple [.int (k : Nat), PyData.str (kindS (nearB row ms k) (leadB ms k))]) (fun k => !leadB ms k && !nearB row ms k) (fun k => pN k) (fun i k hk kk k1 k2 => ?_) (by simp; omega) ?_
  · simp [lcStep, kindS_none]
    generalize leadB ms k = a at *
    generalize nearB row ms k = b at *
    cases a <;> cases b <;> simp at k1 k2 ⊢ <;> first | exact k1 | exact k2
  · simpa [wrongL] using q
@[simp] def S_least_counts : SV := fun ds Q E => ∃ (row : List Int) (p : PyData), ds = [.py (tI row), .py p] ∧ row ≠ [] ∧ row.length ≤ 40 ∧ (∀ ms, p = tN ms → ms.Perm (List.range row.length) → Q (.py (.list ((lowsL row ms).map pN)))) ∧ (ordB row.length p = false → E ⟨"NoOrder", []⟩)
@[simp] def S_greatest_counts : SV := fun ds Q E => ∃ (row : List Int) (p : PyData), ds = [.py (tI row), .py p] ∧ row ≠ [] ∧ row.length ≤ 40 ∧ (∀ ms, p = tN ms → ms.Perm (List.range row.length) → Q (.py (.list ((highsL row ms).map pN)))) ∧ (ordB row.length p = false → E ⟨"NoOrder", []⟩)
theorem places_at {ms : List Nat} {m : Nat} (h : m < ms.length) : atI ((placesL ms).map pN) (m : Int) = some (pN (ms.idxOf m)) := atI_map (by unfold placesL; rw [List.getElem?_map, List.getElem?_range h]; rfl)
theorem l_least_counts : ∀ ds Q E, S_least_counts ds Q E → t_least_counts S_places_in S_kinds_of S_mates (envOf 7 ds) (fin Q E) := by
  rintro ds Q E ⟨row, p, rfl, h0, h1, q1, q2⟩
  simp [t_least_counts, -forGo, -S_kinds_of, -S_places_in, -S_mates]
  refine ⟨row, p, rfl, h0, h1, fun ms e hp => ?_, q2⟩
  subst e
  have q := q1 ms rfl hp
  have hl := perm_len hp
  refine ⟨ms, true, rfl, by omega, by rw [hl]; exact hp, ?_⟩
  simp [matesP, -forGo]
  refine ⟨by omega, ?_⟩
  rw [kindL_map, matesL_map, zip_range2]
  refine for_enc (fun k => PyData.tuple [PyData.str (kindS (nearB row ms k) (leadB ms k)), oN (mateOf row k)]) (fun i ρ => ∃ (x y : VL.Slot), ρ = [.shr (.py (tI row)), .shr (.py (tN ms)), .shr (.py (.tuple ((List.range row.length).map fun k => PyData.str (kindS (nearB row ms k) (leadB ms k))))), .shr (.py (.list ((placesL ms).map pN))), .own (.py (.list ((List.range i).map fun k => pN (lowD row ms k)))), x, y])
    ⟨_, _, rfl⟩ (fun i k ρ hk iv nx ct hn => ?_) (fun ρ iv => ?_)
  · obtain ⟨x, y, rfl⟩ := iv
    obtain ⟨rfl, hk⟩ := range_get hk
    have step : ∀ (x y : VL.Slot) v, v = pN (lowD row ms k) → nx [.shr (.py (tI row)), .shr (.py (tN ms)), .shr (.py (.tuple ((List.range row.length).map fun k => PyData.str (kindS (nearB row ms k) (leadB ms k))))), .shr (.py (.list ((placesL ms).map pN))), .own (.py (.list (((List.range k).map fun k => pN (lowD row ms k)) ++ [v]))), x, y] := fun x y v e =>
      (hn _ ⟨x, y, by rw [e, List.range_succ, List.map_append]; rfl⟩).1
    have hd : lowD row ms k = match mateOf row k with
      | some m => if (!nearB row ms k && leadB ms k) = true then ms.idxOf m + 1 else 0
      | none => 0 := rfl
    simp [kindS_leads]
    cases hm : mateOf row k with
    | none =>
      rw [hm] at hd
      simp only at hd
      simp [oN]
      exact ⟨by omega, step _ _ _ (by rw [hd]; rfl)⟩
    | some m =>
      rw [hm] at hd
      simp only at hd
      have hmr := (mateOf_lt hm).1
      have ha := places_at (ms := ms) (m := m) (by omega)
      simp [oN]
      cases hN : nearB row ms k <;> cases hL : leadB ms k <;> rw [hN, hL] at hd <;> simp at hd ⊢
      · exact ⟨by omega, step _ _ _ (by rw [hd]; rfl)⟩
      · refine ⟨_, ha, ?_⟩
        simp [pN]
        exact ⟨by omega, step _ _ _ (by rw [hd]; rfl)⟩
      · exact ⟨by omega, step _ _ _ (by rw [hd]; rfl)⟩
      · exact ⟨by omega, step _ _ _ (by rw [hd]; rfl)⟩
  · obtain ⟨x, y, rfl⟩ := iv
    simp at q ⊢
    simpa [lowsL, Function.comp_def] using q
theorem l_greatest_counts : ∀ ds Q E, S_greatest_counts ds Q E → t_greatest_counts S_places_in S_kinds_of S_mates (envOf 8 ds) (fin Q E) := by
  rintro ds Q E ⟨row, p, rfl, h0, h1, q1, q2⟩
  simp [t_greatest_counts, -forGo, -S_kinds_of, -S_places_in, -S_mates]
  refine ⟨row, p, rfl, h0, h1, fun ms e hp => ?_, q2⟩
  subst e
  have q := q1 ms rfl hp
  have hl := perm_len hp
  refine ⟨ms, true, rfl, by omega, by rw [hl]; exact hp, ?_⟩
  simp [matesP, -forGo]
  refine ⟨by omega, ?_⟩
  have ez : zip3P ((kindL row ms).map PyData.str) ((matesL row).map oN) ((placesL ms).map pN) = (List.range row.length).map fun k => PyData.tuple [PyData.str (kindS (nearB row ms k) (leadB ms k)), oN (mateOf row k), pN (ms.idxOf k)] := by
    rw [kindL_map, matesL_map, placesL_map hl, zip_range3]
  rw [ez, kindL_map]
  refine for_enc (fun k => PyData.tuple [PyData.str (kindS (nearB row ms k) (leadB ms k)), oN (mateOf row k), pN (ms.idxOf k)]) (fun i ρ => ∃ (x y z : VL.Slot), ρ = [.shr (.py (tI row)), .shr (.py (tN ms)), .shr (.py (.tuple ((List.range row.length).map fun k => PyData.str (kindS (nearB row ms k) (leadB ms k))))), .shr (.py (.list ((placesL ms).map pN))), .own (.py (.list ((List.range i).map fun k => pN (highD row ms k)))), x, y, z])
    ⟨_, _, _, rfl⟩ (fun i k ρ hk iv nx ct hn => ?_) (fun ρ iv => ?_)
  · obtain ⟨x, y, z, rfl⟩ := iv
    obtain ⟨rfl, hk⟩ := range_get hk
    have step : ∀ (x y z : VL.Slot) v, v = pN (highD row ms k) → nx [.shr (.py (tI row)), .shr (.py (tN ms)), .shr (.py (.tuple ((List.range row.length).map fun k => PyData.str (kindS (nearB row ms k) (leadB ms k))))), .shr (.py (.list ((placesL ms).map pN))), .own (.py (.list (((List.range k).map fun k => pN (highD row ms k)) ++ [v]))), x, y, z] := fun x y z v e =>
      (hn _ ⟨x, y, z, by rw [e, List.range_succ, List.map_append]; rfl⟩).1
    have hd : highD row ms k = match mateOf row k with
      | some m => if (nearB row ms k && !leadB ms k) = true then ms.idxOf m else ms.idxOf k
      | none => ms.idxOf k := rfl
    have hnn : mateOf row k = none → nearB row ms k = false := fun e => by unfold nearB; rw [e]
    simp [kindS_near]
    cases hm : mateOf row k with
    | none =>
      rw [hm] at hd
      simp only at hd
      simp [oN, hnn hm]
      exact ⟨by omega, step _ _ _ _ (by rw [hd])⟩
    | some m =>
      rw [hm] at hd
      simp only at hd
      have hmr := (mateOf_lt hm).1
      have ha := places_at (ms := ms) (m := m) (by omega)
      simp [oN]
      cases hN : nearB row ms k <;> cases hL : leadB ms k <;> rw [hN, hL] at hd <;> simp at hd ⊢
      · exact ⟨by omega, step _ _ _ _ (by rw [hd])⟩
      · exact ⟨by omega, step _ _ _ _ (by rw [hd])⟩
      · exact ⟨_, ha, by omega, step _ _ _ _ (by rw [hd])⟩
      · exact ⟨by omega, step _ _ _ _ (by rw [hd])⟩
  · obtain ⟨x, y, z, rfl⟩ := iv
    simp at q ⊢
    simpa [highsL, Function.comp_def] using q
/-! ### clashes -/
theorem lows_at {row : List Int} {ms : List Nat} {k : Nat} (h : k < row.length) : atI ((lowsL row ms).map pN) (k : Int) = some (pN (lowD row ms k)) := atI_map (by unfold lowsL; rw [List.getElem?_map, List.getElem?_range h]; rfl)
theorem highs_at {row : List Int} {ms : List Nat} {k : Nat} (h : k < row.length) : atI ((highsL row ms).map pN) (k : Int) = some (pN (highD row ms k)) := atI_map (by unfold highsL; rw [List.getElem?_map, List.getElem?_range h]; rfl)
theorem clashN_succ (row : List Int) (ms : List Nat) (n : Nat) : clashN row ms (n + 1) = clashN row ms n ++ clashRow row ms n := by
  unfold clashN; rw [List.range_succ, List.flatMap_append]; simp
theorem clashRow_len (row : List Int) (ms : List Nat) (n : Nat) : (clashRow row ms n).length ≤ row.length := by
  unfold clashRow
  rw [List.length_map]
  have := List.length_filter_le (fun j => decide (highD row ms (n + 1 + j) < lowD row ms n)) (List.range (row.length - (n + 1)))
  rw [List.length_range] at this
  omega
theorem clashN_len (row : List Int) (ms : List Nat) (n : Nat) : (clashN row ms n).length ≤ row.length * n := by
  induction n with
  | zero => simp [clashN]
  | succ n ih =>
    have := clashRow_len row ms n
    rw [clashN_succ, List.length_append, Nat.mul_succ]
    omega
theorem clashN_le {row : List Int} {ms : List Nat} {n : Nat} (h1 : row.length ≤ 40) (hn : n ≤ row.length) : (clashN row ms n).length ≤ 1600 :=
  Nat.le_trans (clashN_len row ms n) (Nat.le_trans (Nat.mul_le_mul h1 (Nat.le_trans hn h1)) (by decide))
@[simp] def S_clashes : SV := fun ds Q E => ∃ (row : List Int) (p : PyData), ds = [.py (tI row), .py p] ∧ row ≠ [] ∧ row.length ≤ 40 ∧ (∀ ms, p = tN ms → ms.Perm (List.range row.length) → Q (.py (.tuple ((clashL row ms).map pairP)))) ∧ (ordB row.length p = false → E ⟨"NoOrder", []⟩)
theorem l_clashes : ∀ ds Q E, S_clashes ds Q E → t_clashes S_greatest_counts S_least_counts (envOf 7 ds) (fin Q E) := by
  rintro ds Q E ⟨row, p, rfl, h0, h1, q1, q2⟩
  simp [t_clashes, -forGo, -lcGo, -S_least_counts, -S_greatest_counts]
  refine ⟨row, p, rfl, h0, h1, fun ms e hp => ?_, q2⟩
  subst e
  have q := q1 ms rfl hp
  have hl := perm_len hp
  refine ⟨row, _, rfl, h0, h1, fun ms' e _ => ?_, fun hb => by rw [ordB_tN hp] at hb; cases hb⟩
  obtain rfl := tN_inj.mp e
  simp [-forGo, -lcGo]
  refine ⟨by omega, ?_⟩
  rw [rangeP_eq]
  refine for_enc (encR 0) (fun i ρ => ∃ (x : VL.Slot), ρ = [.shr (.py (tI row)), .shr (.py (tN ms)), .shr (.py (.list ((lowsL row ms).map pN))), .shr (.py (.list ((highsL row ms).map pN))), .own (.py (.list ((clashN row ms i).map pairP))), x, .un])
    ⟨_, rfl⟩ (fun i k ρ hk iv nx ct hn => ?_) (fun ρ iv => ?_)
  · obtain ⟨x, rfl⟩ := iv
    obtain ⟨rfl, hk⟩ := range_get hk
    simp [-lcGo]
    rw [rangeP_eq, show ((row.length : Int) - ((k : Int) + 1)).toNat = row.length - (k + 1) by omega]
    have ha := lows_at (ms := ms) hk
    have hc := clashN_le (ms := ms) h1 (Nat.le_of_lt hk)
    have hr := clashRow_len row ms k
    refine ⟨⟨by simp only [small62]; omega, by omega⟩, ?_⟩
    refine lc_encF (encR ((k : Int) + 1)) (fun j => decide (highD row ms (k + 1 + j) < lowD row ms k)) (fun j => pairP (k, k + 1 + j)) (fun i j hj kk k1 k2 => ?_) (by simp; omega) ?_
    · obtain ⟨rfl, hj⟩ := range_get hj
      have hb := highs_at (row := row) (ms := ms) (k := k + 1 + j) (by omega)
      have ec : (k : Int) + 1 + (j : Int) = ((k + 1 + j : Nat) : Int) := by push_cast; rfl
      rw [← ec] at hb
      simp [lcStep, encR_eq]
      refine ⟨_, ha, _, hb, ?_⟩
      simp [pN]
      by_cases c : highD row ms (k + 1 + j) < lowD row ms k
      · simp [c] at k1 ⊢; exact k1
      · simp [c] at k2 ⊢; exact k2
    · simp
      refine ⟨?_, (hn _ ⟨.shr (.py (.int (k : Nat))), ?_⟩).1⟩
      · unfold clashRow at hr; rw [List.length_map] at hr; omega
      · rw [clashN_succ, List.map_append]
        unfold clashRow
        rw [List.map_map]
        rfl
  · obtain ⟨x, rfl⟩ := iv
    simp at q ⊢
    exact q
/-! ### the law's own look -/
@[simp] def S_j_wrong : SV := fun ds Q _ => ∃ (row : List Int) (ms : List Nat), ds = [.py (tI row), .py (tN ms)] ∧ row.length ≤ 40 ∧ ms.Perm (List.range row.length) ∧ Q (.py (.list ((wrongL row ms).map pN)))
def demP (row : List Int) (ms : List Nat) (k : Nat) : PyData := .tuple [pN (lowD row ms k), pN (highD row ms k)]
@[simp] def S_j_demands : SV := fun ds Q _ => ∃ (row : List Int) (ms : List Nat), ds = [.py (tI row), .py (tN ms)] ∧ row.length ≤ 40 ∧ ms.Perm (List.range row.length) ∧ Q (.py (.list ((List.range row.length).map (demP row ms))))
@[simp] def S_j_clashes : SV := fun ds Q _ => ∃ (row : List Int) (ms : List Nat), ds = [.py (tI row), .py (tN ms)] ∧ row.length ≤ 40 ∧ ms.Perm (List.range row.length) ∧ Q (.py (.list ((clashL row ms).map pairP)))
/-! ### sizes -/
theorem clashL_lt {row : List Int} {ms : List Nat} {p : Nat × Nat} (h : p ∈ clashL row ms) : p.1 < p.2 ∧ p.2 < row.length ∧ highD row ms p.2 < lowD row ms p.1 := by
  unfold clashL clashN at h
  obtain ⟨a, ha, hp⟩ := List.mem_flatMap.mp h
  unfold clashRow at hp
  obtain ⟨j, hj, rfl⟩ := List.mem_map.mp hp
  obtain ⟨h1, h2⟩ := List.mem_filter.mp hj
  have h1 := List.mem_range.mp h1
  have ha := List.mem_range.mp ha
  exact ⟨by simp only; omega, by simp only; omega, by simpa using h2⟩
end LawP
set_option Elab.async false
set_option linter.all false
set_option maxRecDepth 100000
set_option maxHeartbeats 4000000
namespace LawP
open PySem PySem.Spec PyProof.Rows L2 VL
def t_o_word_with : VS :=
  (sSeq (sPar [1, 2] (mCons false (vC (.py (.str ""))) (mCons false (vC (.py (.int 0))) mNil)))
  (sSeq (sFor (iS (vVar 0)) (tgName 3)
  (sSeq (sAugA 1 gAugAdd (vBin gAdd (vBin gMulA (vC (.py (.str "s"))) (vBin gSub (vBor 3) (vBor 2))) (vC (.py (.str "a")))))
  (sSet 2 (vVar 3))))
  (sRet (vBin gAdd (vBor 1) (vBin gMulA (vC (.py (.str "s"))) (vBin gSub (vCal gLen (vCons (vBor 0) vNil)) (vBor 2)))))))
def t_stairs (S_greatest_counts : SV) (S_least_counts : SV) : VS :=
  (sSeq (sPar [2, 3] (mCons false (vCall S_least_counts (vCons (vVar 0) (vCons (vVar 1) vNil))) (mCons false (vCall S_greatest_counts (vCons (vVar 0) (vCons (vVar 1) vNil))) mNil)))
  (sSeq (sSet 4 (vCal gTuple (vCons (vLc [5] (iR1 (vCons (vCal gLen (vCons (vBor 2) vNil)) vNil)) (tgName 5) wYes (vCal gMax (vCons (vSl gSl (vBor 2) oNo (oAt (vBin gAdd (vBor 5) (vC (.py (.int 1)))))) vNil))) vNil)))
  (sRet (vTup (vCons (vVar 4) (vCons (vCal gTuple (vCons (vLc [5] (iR1 (vCons (vCal gLen (vCons (vBor 3) vNil)) vNil)) (tgName 5) wYes (vCal gMin (vCons (vSl gSl (vBor 3) (oAt (vBor 5)) oNo) vNil))) vNil)) vNil))))))
def t_verdict (S_clashes : SV) (S_misplaced : SV) (S_o_word_with : SV) (S_stairs : SV) : VS :=
  (sSeq (sPar [2, 3] (mCons false (vCall S_misplaced (vCons (vVar 0) (vCons (vVar 1) vNil))) (mCons false (vCall S_clashes (vCons (vVar 0) (vCons (vVar 1) vNil))) mNil)))
  (sSeq (sIf (vTst (vBin gNe (vBor 2) (vTup vNil)))
  (sRet (vTup (vCons (vC (.py (.str "place"))) (vCons (vBin gIx (vBor 2) (vC (.py (.int 0)))) vNil))))
  sNext)
  (sSeq (sIf (vTst (vBin gNe (vBor 3) (vTup vNil)))
  (sRet (vTup (vCons (vC (.py (.str "clash"))) (vStar (vBin gIx (vBor 3) (vC (.py (.int 0)))) vNil))))
  sNext)
  (sRet (vTup (vCons (vC (.py (.str "history"))) (vCons (vCall S_o_word_with (vCons (vBin gIx (vCall S_stairs (vCons (vVar 0) (vCons (vVar 1) vNil))) (vC (.py (.int 1)))) vNil)) vNil)))))))
end LawP
set_option Elab.async false
set_option linter.all false
namespace LawP
open PySem VL
/-! ### lists: places, what is left of them -/
theorem split_at {l : List Nat} {x : Nat} (h : x ∈ l) : ∃ l1 l2, l = l1 ++ x :: l2 ∧ x ∉ l1 := by
  induction l with
  | nil => simp at h
  | cons y l ih =>
    by_cases e : x = y
    · subst e; exact ⟨[], l, rfl, by simp⟩
    · obtain ⟨l1, l2, rfl, hn⟩ := ih ((List.mem_cons.mp h).resolve_left e)
      exact ⟨y :: l1, l2, rfl, by simp [e, hn]⟩
theorem idx_split {l1 l2 : List Nat} {x : Nat} (h : x ∉ l1) : (l1 ++ x :: l2).idxOf x = l1.length := by
  induction l1 with
  | nil => simp
  | cons y l ih =>
    have : y ≠ x := fun e => h (by simp [e])
    have h2 : x ∉ l := fun m => h (List.mem_cons_of_mem _ m)
    rw [List.cons_append, List.idxOf_cons, beq_eq_false_iff_ne.mpr this]
    simp [ih h2]
theorem idx_left {l1 l2 : List Nat} {x : Nat} (h : x ∈ l1) : (l1 ++ l2).idxOf x = l1.idxOf x := by
  obtain ⟨p, q, rfl, hn⟩ := split_at h
  rw [List.append_assoc, List.cons_append, idx_split hn, idx_split hn]
theorem idx_lt_of {l1 l2 : List Nat} {x : Nat} (h : x ∈ l1) : (l1 ++ l2).idxOf x < l1.length := by
  rw [idx_left h]; exact List.idxOf_lt_length_of_mem h
theorem idx_right {l1 l2 : List Nat} {x : Nat} (h : x ∉ l1) : (l1 ++ l2).idxOf x = l1.length + l2.idxOf x := by
  induction l1 with
  | nil => simp
  | cons y l ih =>
    have : y ≠ x := fun e => h (by simp [e])
    have h2 : x ∉ l := fun m => h (List.mem_cons_of_mem _ m)
    rw [List.cons_append, List.idxOf_cons, beq_eq_false_iff_ne.mpr this]
    simp [ih h2]; omega
theorem mem_of_idx_lt {l1 l2 : List Nat} {x : Nat} (h : (l1 ++ l2).idxOf x < l1.length) : x ∈ l1 := by
  by_cases c : x ∈ l1
  · exact c
  · rw [idx_right c] at h; omega
theorem split_uniq {a b c d : List Nat} {x : Nat} (e : a ++ x :: b = c ++ x :: d) (ha : x ∉ a) (hc : x ∉ c) : a = c ∧ b = d := by
  have h1 := idx_split (l2 := b) ha
  have h2 := idx_split (l2 := d) hc
  rw [e, h2] at h1
  have := List.append_inj e h1.symm
  exact ⟨this.1, by simpa using this.2⟩
theorem insAt_mid (a b : List Nat) (x : Nat) : insAt (a ++ b) a.length x = a ++ x :: b := by
  unfold insAt; simp
theorem insAt_end (a : List Nat) (x : Nat) : insAt a a.length x = a ++ [x] := by unfold insAt; simp
theorem insAt_perm (l : List Nat) (p x : Nat) : (insAt l p x).Perm (x :: l) := by
  unfold insAt
  refine List.perm_middle.trans ?_
  rw [List.take_append_drop]
theorem insAt_filter (l : List Nat) (p x : Nat) (f : Nat → Bool) (h : f x = false) : (insAt l p x).filter f = l.filter f := by
  unfold insAt
  rw [List.filter_append, List.filter_cons, h]
  simp only [Bool.false_eq_true, if_false]
  rw [← List.filter_append, List.take_append_drop]
/-! ### the line of all persons so far -/
def tpl (row : List Int) (c : Nat) (T : List Nat) (a : Nat) : Nat := match mateOf row a with
  | some m => if c ≤ T.idxOf m then T.idxOf m + 1 else T.length
  | none => T.length
def tq (row : List Int) (c : Nat → Nat) : Nat → List Nat
  | 0 => []
  | a + 1 => insAt (tq row c a) (tpl row (c a) (tq row c a) a) a
theorem tq_succ (row : List Int) (c : Nat → Nat) (a : Nat) : tq row c (a + 1) = insAt (tq row c a) (tpl row (c a) (tq row c a) a) a := rfl
theorem tq_perm (row : List Int) (c : Nat → Nat) (a : Nat) : (tq row c a).Perm (List.range a) := by
  induction a with
  | zero => exact .refl _
  | succ a ih =>
    rw [tq_succ, List.range_succ]
    exact (insAt_perm _ _ _).trans ((ih.cons a).trans (List.perm_append_comm (l₁ := [a])))
theorem tq_len (row : List Int) (c : Nat → Nat) (a : Nat) : (tq row c a).length = a := perm_len (tq_perm row c a)
theorem tq_mem {row : List Int} {c : Nat → Nat} {a k : Nat} : k ∈ tq row c a ↔ k < a := perm_mem (tq_perm row c a)
theorem tq_filter {row : List Int} {c : Nat → Nat} {a : Nat} : ∀ d, (tq row c (a + d)).filter (fun k => decide (k < a)) = tq row c a
  | 0 => by
    rw [Nat.add_zero, List.filter_eq_self]
    intro k hk
    exact decide_eq_true (tq_mem.mp hk)
  | d + 1 => by
    rw [← Nat.add_assoc, tq_succ, insAt_filter _ _ _ _ (by simp), tq_filter d]
theorem tq_filter' {row : List Int} {c : Nat → Nat} {a n : Nat} (h : a ≤ n) : (tq row c n).filter (fun k => decide (k < a)) = tq row c a := by
  have := tq_filter (row := row) (c := c) (a := a) (n - a)
  rwa [Nat.add_sub_cancel' h] at this
/-- what is done by a word -/
theorem served_tq {row : List Int} {n : Nat} {c : Nat → Nat} : ∀ {w : List Nat} {a s : Nat} {sv ws : List Nat}, goodW n a s w → sv.length = s → sv ++ ws = tq row c a → a ≤ n → (∀ i x, (cntsL s w)[i]? = some x → c (a + i) = x) →
    sv ++ servedL (stepsL row a ws w) = tq row c n
  | [], a, s, sv, ws, ⟨h1, h2⟩, e1, e2, h3, hc => by
    have hl := congrArg List.length e2
    rw [List.length_append, tq_len] at hl
    have : ws = [] := List.length_eq_zero_iff.mp (by omega)
    subst this
    subst h1
    simpa [stepsL, servedL] using e2
  | d :: w, a, s, sv, ws, h, e1, e2, h3, hc => by
    have hl := congrArg List.length e2
    rw [List.length_append, tq_len] at hl
    rcases h with ⟨rfl, ha, h⟩ | ⟨rfl, ha, h⟩
    · rw [stepsL_a, servedL_a]
      rw [cntsL_a] at hc
      have hca : c a = s := hc 0 s rfl
      refine served_tq h e1 ?_ ha fun i x hx => ?_
      · rw [tq_succ, ← e2, hca]
        have hnd : (sv ++ ws).Nodup := by rw [e2]; exact perm_nodup (tq_perm row c a)
        have key : ∀ i, insAt (sv ++ ws) (sv.length + i) a = sv ++ insAt ws i a := fun i => by
          unfold insAt
          rw [List.take_append, List.drop_append, List.take_of_length_le (by omega), List.drop_of_length_le (by omega)]
          simp
        unfold joinQ joinPl tpl
        cases hm : mateOf row a with
        | none => simp only; rw [← key, List.length_append]
        | some m =>
          simp only
          have hma := (mateOf_lt hm).1
          have hmT : m ∈ sv ++ ws := by rw [e2]; exact tq_mem.mpr hma
          by_cases c1 : m ∈ ws
          · have c2 : m ∉ sv := fun c2 => (List.nodup_append.mp hnd).2.2 m c2 m c1 rfl
            rw [idx_right c2, if_pos c1, if_pos (by omega), ← key, Nat.add_assoc]
          · have c2 : m ∈ sv := (List.mem_append.mp hmT).resolve_right c1
            have := idx_lt_of (l2 := ws) c2
            rw [if_neg c1, if_neg (by omega), ← key, List.length_append]
      · rw [show a + 1 + i = a + (i + 1) by omega]
        exact hc (i + 1) x (by simpa using hx)
    · cases ws with
      | nil => simp at hl; omega
      | cons x ws =>
        rw [stepsL_s, servedL_s]
        rw [cntsL_s] at hc
        have := served_tq (row := row) (c := c) (sv := sv ++ [x]) (ws := ws) h (by simp [e1]) (by rw [List.append_assoc]; exact e2) h3 hc
        rw [List.append_assoc] at this
        exact this
def fnOf (cs : List Nat) (k : Nat) : Nat := cs.getD k 0
theorem ordL_tq {row : List Int} {w : List Nat} (h : HistW row.length w) : ordL row w = tq row (fnOf (cntsL 0 w)) row.length := by
  have := served_tq (row := row) (c := fnOf (cntsL 0 w)) (sv := []) (ws := []) h rfl rfl (Nat.zero_le _) (fun i x hx => by unfold fnOf; rw [Nat.zero_add, List.getD_eq_getElem?_getD, hx]; rfl)
  simpa [ordL] using this
end LawP
set_option Elab.async false
set_option linter.all false
namespace LawP
open PySem VL
/-! ### counts of words -/
theorem cntsL_len {n : Nat} : ∀ {w : List Nat} {a s : Nat}, goodW n a s w → a + (cntsL s w).length = n
  | [], a, s, h => by simp [cntsL]; exact h.1
  | c :: w, a, s, h => by
    rcases h with ⟨rfl, _, h⟩ | ⟨rfl, _, h⟩
    · have := cntsL_len h; rw [cntsL_a, List.length_cons]; omega
    · have := cntsL_len h; rw [cntsL_s]; exact this
theorem cntsL_ge : ∀ {w : List Nat} {s x : Nat}, x ∈ cntsL s w → s ≤ x
  | [], _, _, h => by simp [cntsL] at h
  | c :: w, s, x, h => by
    unfold cntsL at h
    split at h
    · rcases List.mem_cons.mp h with rfl | h
      · omega
      · exact cntsL_ge h
    · have := cntsL_ge h; omega
theorem cntsL_up : ∀ {w : List Nat} {s : Nat}, (cntsL s w).Pairwise (· ≤ ·)
  | [], _ => .nil
  | c :: w, s => by
    unfold cntsL
    split
    · exact .cons (fun x hx => cntsL_ge hx) cntsL_up
    · exact cntsL_up
theorem cntsL_le {n : Nat} : ∀ {w : List Nat} {a s i x : Nat}, goodW n a s w → s ≤ a → (cntsL s w)[i]? = some x → x ≤ a + i
  | [], _, _, _, _, _, _, h => by simp [cntsL] at h
  | c :: w, a, s, i, x, h, hs, hx => by
    rcases h with ⟨rfl, _, h⟩ | ⟨rfl, _, h⟩
    · rw [cntsL_a] at hx
      cases i with
      | zero => simp at hx; omega
      | succ i =>
        have := cntsL_le h (by omega) (by simpa using hx)
        omega
    · rw [cntsL_s] at hx
      exact cntsL_le h (by omega) hx
/-- counts of some history of n persons -/
structure CntOk (n : Nat) (cs : List Nat) : Prop where
  len : cs.length = n
  up : ∀ i j, i ≤ j → j < n → fnOf cs i ≤ fnOf cs j
  le : ∀ i, i < n → fnOf cs i ≤ i
theorem fnOf_get {cs : List Nat} {i : Nat} (h : i < cs.length) : fnOf cs i = cs[i] := by
  unfold fnOf
  rw [List.getD_eq_getElem?_getD, List.getElem?_eq_getElem h]; rfl
theorem HistW.cnt {n : Nat} {w : List Nat} (h : HistW n w) : CntOk n (cntsL 0 w) := by
  have hl : (cntsL 0 w).length = n := by have := cntsL_len h; omega
  refine ⟨hl, fun i j hij hj => ?_, fun i hi => ?_⟩
  · rw [fnOf_get (by omega), fnOf_get (by omega)]
    by_cases e : i = j
    · subst e; exact Nat.le_refl _
    · exact List.pairwise_iff_getElem.mp cntsL_up i j (by omega) (by omega) (by omega)
  · rw [fnOf_get (by omega)]
    have := cntsL_le h (Nat.le_refl _) (List.getElem?_eq_getElem (show i < (cntsL 0 w).length by omega))
    omega
/-- the word of some counts -/
def wordC (n : Nat) : Nat → List Nat → List Nat
  | s, [] => List.replicate (n - s) 115
  | s, c :: cs => List.replicate (c - s) 115 ++ 97 :: wordC n c cs
theorem goodW_reps {n : Nat} : ∀ {k a s : Nat} {w : List Nat}, s + k ≤ a → goodW n a (s + k) w → goodW n a s (List.replicate k 115 ++ w)
  | 0, _, _, _, _, h => h
  | k + 1, a, s, w, hk, h => by
    rw [List.replicate_succ, List.cons_append]
    exact .inr ⟨rfl, by omega, goodW_reps (by omega) (by rw [show s + 1 + k = s + (k + 1) by omega]; exact h)⟩
theorem cntsL_reps : ∀ {k s : Nat} {w : List Nat}, cntsL s (List.replicate k 115 ++ w) = cntsL (s + k) w
  | 0, _, _ => rfl
  | k + 1, s, w => by
    rw [List.replicate_succ, List.cons_append, cntsL_s, cntsL_reps]
    congr 1; omega
theorem wordC_good {n : Nat} : ∀ {cs : List Nat} {a s : Nat}, s ≤ a → a + cs.length = n → (∀ x ∈ cs, s ≤ x) → cs.Pairwise (· ≤ ·) → (∀ i x, cs[i]? = some x → x ≤ a + i) → goodW n a s (wordC n s cs)
  | [], a, s, h1, h2, _, _, _ => by
    have h2 : a = n := by simpa using h2
    subst h2
    have := goodW_reps (n := a) (k := a - s) (a := a) (s := s) (w := []) (by omega) ⟨rfl, by omega⟩
    simpa [wordC] using this
  | c :: cs, a, s, h1, h2, h3, h4, h5 => by
    have hc := h3 c List.mem_cons_self
    have hca := h5 0 c rfl
    rw [List.length_cons] at h2
    rw [List.pairwise_cons] at h4
    unfold wordC
    refine goodW_reps (by omega) ?_
    rw [show s + (c - s) = c by omega]
    exact .inl ⟨rfl, by omega, wordC_good (by omega) (by omega) h4.1 h4.2 fun i x hx => by have := h5 (i + 1) x (by simpa using hx); omega⟩
theorem cntsL_wordC {n : Nat} : ∀ {cs : List Nat} {s : Nat}, (∀ x ∈ cs, s ≤ x) → cs.Pairwise (· ≤ ·) → cntsL s (wordC n s cs) = cs
  | [], s, _, _ => by
    have := cntsL_reps (k := n - s) (s := s) (w := [])
    simpa [wordC, cntsL] using this
  | c :: cs, s, h3, h4 => by
    have hc := h3 c List.mem_cons_self
    rw [List.pairwise_cons] at h4
    unfold wordC
    rw [cntsL_reps, show s + (c - s) = c by omega, cntsL_a, cntsL_wordC h4.1 h4.2]
theorem CntOk.pair {n : Nat} {cs : List Nat} (h : CntOk n cs) : cs.Pairwise (· ≤ ·) := by
  rw [List.pairwise_iff_getElem]
  intro i j hi hj hij
  have := h.up i j (Nat.le_of_lt hij) (by rw [← h.len]; exact hj)
  rwa [fnOf_get hi, fnOf_get hj] at this
theorem CntOk.hist {n : Nat} {cs : List Nat} (h : CntOk n cs) : HistW n (wordC n 0 cs) := by
  refine wordC_good (Nat.le_refl _) (by rw [h.len]; omega) (fun _ _ => Nat.zero_le _) h.pair fun i x hx => ?_
  have hi := (List.getElem?_eq_some_iff.mp hx).1
  have := h.le i (by rw [← h.len]; exact hi)
  rw [fnOf_get hi, (List.getElem?_eq_some_iff.mp hx).2] at this
  omega
theorem CntOk.cnts {n : Nat} {cs : List Nat} (h : CntOk n cs) : cntsL 0 (wordC n 0 cs) = cs := cntsL_wordC (fun _ _ => Nat.zero_le _) h.pair
end LawP
set_option Elab.async false
set_option linter.all false
namespace LawP
open PySem VL
/-! ### a history has an order exactly if its counts meet the demands -/
structure Fits (row : List Int) (ms : List Nat) (c : Nat → Nat) : Prop where
  kd : ∀ k, k < row.length → nearB row ms k = true ∨ leadB ms k = true
  lo : ∀ k, k < row.length → lowD row ms k ≤ c k
  hi : ∀ k, k < row.length → c k ≤ highD row ms k
theorem near_iff {row : List Int} {ms : List Nat} {k : Nat} : nearB row ms k = true ↔ ∃ m, mateOf row k = some m ∧ ms.idxOf k = ms.idxOf m + 1 := by
  unfold nearB
  cases mateOf row k with
  | none => simp
  | some m => simp
theorem lead_iff {ms : List Nat} {k : Nat} : leadB ms k = true ↔ ∀ j, j < k → ms.idxOf j < ms.idxOf k := by
  unfold leadB
  rw [List.all_eq_true]
  constructor
  · intro h j hj
    simpa using h j (List.mem_range.mpr hj)
  · intro h j hj
    simpa using h j (List.mem_range.mp hj)
theorem filt_idx {l : List Nat} {f : Nat → Bool} {x : Nat} (hx : x ∈ l) (hf : f x = true) : (l.filter f).idxOf x ≤ l.idxOf x := by
  obtain ⟨l1, l2, rfl, hn⟩ := split_at hx
  rw [List.filter_append, List.filter_cons, hf, if_pos rfl, idx_split hn, idx_split (fun m => hn (List.mem_filter.mp m).1)]
  exact List.length_filter_le _ _
/-- an order is what its counts make of it -/
theorem fits_tq {row : List Int} {ms : List Nat} {c : Nat → Nat} (hp : ms.Perm (List.range row.length)) (hf : Fits row ms c) (hup : ∀ i j, i ≤ j → j < row.length → c i ≤ c j) : tq row c row.length = ms := by
  have hnd := perm_nodup hp
  have go : ∀ a, a ≤ row.length → tq row c a = ms.filter fun k => decide (k < a) := by
    intro a
    induction a with
    | zero => intro _; simp [tq]
    | succ a ih =>
      intro ha
      have ih := ih (by omega)
      have ham : a ∈ ms := (perm_mem hp).mpr ha
      obtain ⟨l1, l2, e, hn1⟩ := split_at ham
      have ia : ms.idxOf a = l1.length := by rw [e]; exact idx_split hn1
      have hn2 : a ∉ l2 := by rw [e] at hnd; exact (List.nodup_cons.mp (List.nodup_append.mp hnd).2.1).1
      have f1 : ∀ l : List Nat, a ∉ l → l.filter (fun k => decide (k < a + 1)) = l.filter fun k => decide (k < a) := fun l h => by
        refine List.filter_congr fun k hk => ?_
        have : k ≠ a := fun e => h (e ▸ hk)
        by_cases c1 : k < a
        · simp [c1, Nat.lt_succ_of_lt c1]
        · simp [c1]; omega
      have eF : ms.filter (fun k => decide (k < a)) = l1.filter (fun k => decide (k < a)) ++ l2.filter (fun k => decide (k < a)) := by
        rw [e, List.filter_append, List.filter_cons]; simp
      have eF1 : ms.filter (fun k => decide (k < a + 1)) = l1.filter (fun k => decide (k < a)) ++ a :: l2.filter (fun k => decide (k < a)) := by
        rw [e, List.filter_append, List.filter_cons, f1 _ hn1, f1 _ hn2]; simp
      rw [tq_succ, ih, eF1]
      have lF : (ms.filter fun k => decide (k < a)).length = a := by rw [← ih]; exact tq_len _ _ _
      have fin : ∀ j, j = (l1.filter fun k => decide (k < a)).length → insAt (ms.filter fun k => decide (k < a)) j a = l1.filter (fun k => decide (k < a)) ++ a :: l2.filter (fun k => decide (k < a)) := fun j hj => by
        rw [hj, eF, insAt_mid]
      refine fin _ ?_
      have lead : leadB ms a = true → (l1.filter fun k => decide (k < a)).length = a := fun hl => by
        have e2 : l2.filter (fun k => decide (k < a)) = [] := by
          rw [List.filter_eq_nil_iff]
          intro k hk c1
          have c1 : k < a := by simpa using c1
          have := lead_iff.mp hl k c1
          have hk1 : k ∉ l1 := fun h => by
            rw [e] at hnd
            exact (List.nodup_append.mp hnd).2.2 k h k (List.mem_cons_of_mem _ hk) rfl
          rw [ia, e, idx_right hk1] at this
          omega
        rw [eF, e2, List.append_nil] at lF
        exact lF
      unfold tpl
      cases hm : mateOf row a with
      | none =>
        simp only
        rcases hf.kd a ha with h | h
        · obtain ⟨m, h1, _⟩ := near_iff.mp h
          rw [hm] at h1; cases h1
        · rw [lF, lead h]
      | some m =>
        simp only
        have hma := (mateOf_lt hm).1
        have hmm : m ∈ ms := (perm_mem hp).mpr (by omega)
        have fm := filt_idx (f := fun k => decide (k < a)) hmm (by simpa using hma)
        by_cases hN : nearB row ms a = true
        · obtain ⟨m', h1, h2⟩ := near_iff.mp hN
          rw [hm] at h1
          cases h1
          -- the mate ends l1
          have hne : l1 ≠ [] := fun e3 => by rw [e3] at ia; simp at ia; omega
          obtain ⟨l0, z, e0⟩ : ∃ l0 z, l1 = l0 ++ [z] := ⟨l1.dropLast, l1.getLast hne, (List.dropLast_concat_getLast hne).symm⟩
          have hz : z = m := by
            have i1 : ms.idxOf m = l0.length := by rw [e0] at ia; simp at ia; omega
            have g := idx_get hmm
            rw [i1, e, e0] at g
            simpa using g
          subst hz
          have hz0 : z ∉ l0 := fun h => by
            rw [e, e0] at hnd
            exact (List.nodup_append.mp (List.nodup_append.mp hnd).1).2.2 z h z (by simp) rfl
          have im : ms.idxOf z = l0.length := by rw [e0] at ia; simp at ia; omega
          have e1 : l1.filter (fun k => decide (k < a)) = l0.filter (fun k => decide (k < a)) ++ [z] := by
            rw [e0, List.filter_append]; simp [hma]
          have iF : (ms.filter fun k => decide (k < a)).idxOf z = (l0.filter fun k => decide (k < a)).length := by
            rw [eF, e1, List.append_assoc]
            exact idx_split fun h => hz0 (List.mem_filter.mp h).1
          rw [iF, e1, List.length_append, List.length_singleton]
          by_cases hL : leadB ms a = true
          · have := lead hL
            rw [e1, List.length_append, List.length_singleton] at this
            split
            · rfl
            · rw [lF]; omega
          · rw [if_pos]
            have hh := hf.hi a ha
            unfold highD at hh
            rw [hm] at hh
            have hL' : leadB ms a = false := by simpa using hL
            simp [hN, hL'] at hh
            rw [im] at hh
            refine Nat.le_of_not_lt fun hlt => ?_
            -- the first later person ahead of the mate
            have hex : ∃ b ∈ l0, ¬ b < a := by
              refine Classical.byContradiction fun hno => ?_
              have : l0.filter (fun k => decide (k < a)) = l0 := by
                rw [List.filter_eq_self]
                intro k hk
                refine decide_eq_true (Classical.byContradiction fun c1 => hno ⟨k, hk, c1⟩)
              rw [this] at hlt
              omega
            obtain ⟨b, p1, p2, e4, hb, hp1⟩ : ∃ b p1 p2, l0 = p1 ++ b :: p2 ∧ ¬ b < a ∧ ∀ k ∈ p1, k < a := by
              clear iF e1 fin lead eF eF1 im hz0 hlt hh
              revert hex
              generalize l0 = L
              intro hex
              induction L with
              | nil => obtain ⟨b, hb, _⟩ := hex; simp at hb
              | cons y L ihL =>
                by_cases c1 : y < a
                · obtain ⟨b, hb, hb2⟩ := hex
                  rcases List.mem_cons.mp hb with rfl | hb
                  · exact absurd c1 hb2
                  · obtain ⟨b, p1, p2, e, h1, h2⟩ := ihL ⟨b, hb, hb2⟩
                    refine ⟨b, y :: p1, p2, by rw [e]; rfl, h1, fun k hk => ?_⟩
                    rcases List.mem_cons.mp hk with rfl | hk
                    · exact c1
                    · exact h2 k hk
                · exact ⟨y, [], L, rfl, c1, by simp⟩
            have hbm : b ∈ ms := by rw [e, e0, e4]; simp
            have hbn : b < row.length := (perm_mem hp).mp hbm
            have hb1 : b ∉ p1 := fun h => hb (hp1 b h)
            have ib : ms.idxOf b = p1.length := by
              rw [e, e0, e4]
              simp only [List.append_assoc, List.cons_append]
              exact idx_split hb1
            have hba : b ≠ a := fun h => by
              subst h
              exact hn1 (by rw [e0, e4]; simp)
            have hbL : leadB ms b = false := by
              cases hx : leadB ms b with
              | false => rfl
              | true =>
                have := lead_iff.mp hx z (by omega)
                rw [im, ib, e4, List.length_append] at this
                omega
            have hbN : nearB row ms b = true := (hf.kd b hbn).resolve_right (by rw [hbL]; simp)
            obtain ⟨m2, h5, h6⟩ := near_iff.mp hbN
            have hhb := hf.hi b hbn
            unfold highD at hhb
            rw [h5] at hhb
            simp [hbN, hbL] at hhb
            have hcab := hup a b (by omega) hbn
            have : (l0.filter fun k => decide (k < a)).length ≥ p1.length := by
              have e7 : p1.filter (fun k => decide (k < a)) = p1 := by
                rw [List.filter_eq_self]; intro k hk; exact decide_eq_true (hp1 k hk)
              rw [e4, List.filter_append, e7, List.length_append]; omega
            omega
        · have hN' : nearB row ms a = false := by simpa using hN
          have hL := (hf.kd a ha).resolve_left hN
          have hlo := hf.lo a ha
          unfold lowD at hlo
          rw [hm] at hlo
          simp [hN', hL] at hlo
          rw [if_neg (by omega), lF, lead hL]
  rw [go _ (Nat.le_refl _), List.filter_eq_self]
  intro k hk
  exact decide_eq_true ((perm_mem hp).mp hk)
/-- .. and the counts of a history meet the demands of its order -/
theorem idx_insAt {T : List Nat} {p b m : Nat} (h1 : T.idxOf m < p) (hm : m ∈ T) : (insAt T p b).idxOf m = T.idxOf m := by
  obtain ⟨l1, l2, rfl, hn⟩ := split_at hm
  rw [idx_split hn] at h1 ⊢
  unfold insAt
  obtain ⟨q, rfl⟩ : ∃ q, p = l1.length + 1 + q := ⟨p - (l1.length + 1), by omega⟩
  rw [List.take_append, List.take_of_length_le (by omega), show l1.length + 1 + q - l1.length = q + 1 by omega, List.take_succ_cons, List.append_assoc, List.cons_append]
  exact idx_split hn
theorem tpl_some {row : List Int} {c a m : Nat} {T : List Nat} (h : mateOf row a = some m) : tpl row c T a = if c ≤ T.idxOf m then T.idxOf m + 1 else T.length := by unfold tpl; rw [h]
theorem tpl_none {row : List Int} {c a : Nat} {T : List Nat} (h : mateOf row a = none) : tpl row c T a = T.length := by unfold tpl; rw [h]
theorem tpl_gt {row : List Int} {c a : Nat} {T : List Nat} (h : c ≤ T.length) : c ≤ tpl row c T a := by
  cases hm : mateOf row a with
  | none => rw [tpl_none hm]; exact h
  | some m => rw [tpl_some hm]; split <;> omega
/-- whoever stands ahead of the count stays there -/
theorem tq_fix {row : List Int} {c : Nat → Nat} {a m : Nat} (hma : m < a) (hlt : (tq row c a).idxOf m < c a) : ∀ d, a + d ≤ row.length → (∀ i j, i ≤ j → j < row.length → c i ≤ c j) → (∀ i, i < row.length → c i ≤ i) → (tq row c (a + d)).idxOf m = (tq row c a).idxOf m
  | 0, _, _, _ => rfl
  | d + 1, hd, hup, hle => by
    have ih := tq_fix hma hlt d (by omega) hup hle
    rw [← Nat.add_assoc, tq_succ, idx_insAt _ (tq_mem.mpr (by omega)), ih]
    rw [ih]
    have h1 := hup a (a + d) (by omega) (by omega)
    have h2 := hle (a + d) (by omega)
    have hmT : m ∈ tq row c (a + d) := tq_mem.mpr (by omega)
    have := List.idxOf_lt_length_of_mem hmT
    cases hm : mateOf row (a + d) with
    | none => rw [tpl_none hm]; omega
    | some m2 => rw [tpl_some hm]; split <;> omega
theorem mate_uniq {row : List Int} {a b m : Nat} (ha : mateOf row a = some m) (hb : mateOf row b = some m) : a = b := by
  have key : ∀ a b, mateOf row a = some m → mateOf row b = some m → a < b → False := fun a b ha hb h => by
    obtain ⟨g, hg⟩ : ∃ g, row[a]? = some g := ⟨row[a]'(mateOf_lt ha).2, List.getElem?_eq_getElem _⟩
    obtain ⟨g', hg'⟩ : ∃ g, row[b]? = some g := ⟨row[b]'(mateOf_lt hb).2, List.getElem?_eq_getElem _⟩
    rw [mateOf_at hg] at ha
    rw [mateOf_at hg'] at hb
    obtain ⟨a1, a2, a3⟩ := lastIn_some ha
    obtain ⟨b1, b2, b3⟩ := lastIn_some hb
    have : g = g' := by rw [a2] at b2; exact Option.some.inj b2
    subst this
    exact b3 a a1 h hg
  rcases Nat.lt_trichotomy a b with h | h | h
  · exact (key a b ha hb h).elim
  · exact h
  · exact (key b a hb ha h).elim
theorem insAt_pair {X Y : List Nat} {m a p b : Nat} (h : p ≠ X.length + 1) : ∃ X' Y', insAt (X ++ m :: a :: Y) p b = X' ++ m :: a :: Y' := by
  unfold insAt
  by_cases c : p ≤ X.length
  · refine ⟨X.take p ++ b :: X.drop p, Y, ?_⟩
    rw [List.take_append_of_le_length c, List.drop_append_of_le_length c, List.append_assoc]; rfl
  · obtain ⟨q, rfl⟩ : ∃ q, p = X.length + (q + 2) := ⟨p - (X.length + 2), by omega⟩
    refine ⟨X, Y.take q ++ b :: Y.drop q, ?_⟩
    rw [List.take_length_add_append, List.drop_length_add_append]
    simp
/-- who joins stays right behind the mate -/
theorem tq_pair {row : List Int} {c : Nat → Nat} {a m : Nat} (hm : mateOf row a = some m) (hj : c a ≤ (tq row c a).idxOf m) : ∀ d, ∃ X Y, tq row c (a + 1 + d) = X ++ m :: a :: Y
  | 0 => by
    have hmT : m ∈ tq row c a := tq_mem.mpr (mateOf_lt hm).1
    obtain ⟨l1, l2, e, hn⟩ := split_at hmT
    refine ⟨l1, l2, ?_⟩
    rw [Nat.add_zero, tq_succ, tpl_some hm, if_pos hj, e, idx_split hn]
    have := insAt_mid (l1 ++ [m]) l2 a
    rw [List.length_append, List.length_singleton, List.append_assoc, List.append_assoc] at this
    exact this
  | d + 1 => by
    obtain ⟨X, Y, e⟩ := tq_pair hm hj d
    rw [← Nat.add_assoc, tq_succ]
    have hp : tpl row (c (a + 1 + d)) (tq row c (a + 1 + d)) (a + 1 + d) ≠ X.length + 1 := by
      have hnd := perm_nodup (tq_perm row c (a + 1 + d))
      cases h2 : mateOf row (a + 1 + d) with
      | none => rw [tpl_none h2, e]; simp
      | some m2 =>
        rw [tpl_some h2]
        split
        · intro h
          have hm2 : m2 ∈ tq row c (a + 1 + d) := tq_mem.mpr (mateOf_lt h2).1
          have g := idx_get hm2
          have : (tq row c (a + 1 + d)).idxOf m2 = X.length := by omega
          rw [this, e] at g
          simp at g
          subst g
          have := mate_uniq hm h2
          omega
        · rw [e]; simp
    rw [e] at hp ⊢
    exact insAt_pair hp
theorem tq_fits {row : List Int} {c : Nat → Nat} (hup : ∀ i j, i ≤ j → j < row.length → c i ≤ c j) (hle : ∀ i, i < row.length → c i ≤ i) : Fits row (tq row c row.length) c := by
  have hpn := tq_perm row c row.length
  have hnd := perm_nodup hpn
  -- one person
  have key : ∀ a, a < row.length → (nearB row (tq row c row.length) a = true ∨ leadB (tq row c row.length) a = true) ∧ lowD row (tq row c row.length) a ≤ c a ∧ c a ≤ highD row (tq row c row.length) a := by
    intro a ha
    have ham : a ∈ tq row c row.length := tq_mem.mpr ha
    have fa := tq_filter' (row := row) (c := c) (a := a + 1) (n := row.length) ha
    have own : c a ≤ (tq row c row.length).idxOf a := by
      refine Nat.le_trans ?_ (filt_idx (f := fun k => decide (k < a + 1)) ham (by simp))
      rw [fa, tq_succ]
      have hc := hle a ha
      have hnT : a ∉ tq row c a := fun h => by have := tq_mem.mp h; omega
      have h1 := tpl_gt (row := row) (a := a) (T := tq row c a) (c := c a) (by rw [tq_len]; exact hc)
      refine Nat.le_trans h1 ?_
      unfold insAt
      rw [idx_right fun h => hnT (List.mem_of_mem_take h)]
      simp
      have : tpl row (c a) (tq row c a) a ≤ (tq row c a).length := by
        cases hm : mateOf row a with
        | none => rw [tpl_none hm]; exact Nat.le_refl _
        | some m =>
          rw [tpl_some hm]
          have := List.idxOf_lt_length_of_mem (tq_mem (row := row) (c := c).mpr (mateOf_lt hm).1)
          split <;> omega
      omega
    have lead : tpl row (c a) (tq row c a) a = (tq row c a).length → leadB (tq row c row.length) a = true := fun h => by
      rw [tq_succ, h, insAt_end] at fa
      obtain ⟨l1, l2, e, hn⟩ := split_at ham
      rw [e, List.filter_append, List.filter_cons] at fa
      simp only [Nat.lt_succ_self, decide_true, if_true] at fa
      have hnT : a ∉ tq row c a := fun h => by have := tq_mem.mp h; omega
      have u := split_uniq (b := l2.filter fun k => decide (k < a + 1)) (d := []) fa (fun m => hn (List.mem_filter.mp m).1) hnT
      refine lead_iff.mpr fun k hk => ?_
      have hkm : k ∈ tq row c row.length := tq_mem.mpr (by omega)
      rw [e] at hkm ⊢
      rw [idx_split hn]
      have : k ∈ l1 := by
        rcases List.mem_append.mp hkm with h1 | h1
        · exact h1
        · rcases List.mem_cons.mp h1 with h1 | h1
          · omega
          · have : k ∈ l2.filter fun k => decide (k < a + 1) := List.mem_filter.mpr ⟨h1, decide_eq_true (by omega)⟩
            rw [u.2] at this; simp at this
      exact idx_lt_of this
    cases hm : mateOf row a with
    | none =>
      refine ⟨.inr (lead (tpl_none hm)), ?_, ?_⟩
      · unfold lowD; rw [hm]; exact Nat.zero_le _
      · unfold highD; rw [hm]; exact own
    | some m =>
      have hma := (mateOf_lt hm).1
      have hmm : m ∈ tq row c row.length := tq_mem.mpr (by omega)
      have le_m : (tq row c a).idxOf m ≤ (tq row c row.length).idxOf m := by
        have := filt_idx (f := fun k => decide (k < a)) hmm (by simpa using hma)
        rwa [tq_filter' (Nat.le_of_lt ha)] at this
      by_cases hj : c a ≤ (tq row c a).idxOf m
      · obtain ⟨X, Y, e⟩ := tq_pair hm hj (row.length - (a + 1))
        rw [show a + 1 + (row.length - (a + 1)) = row.length by omega] at e
        have hN : nearB row (tq row c row.length) a = true := by
          refine near_iff.mpr ⟨m, hm, ?_⟩
          have hmX : m ∉ X := fun h => by rw [e] at hnd; exact (List.nodup_append.mp hnd).2.2 m h m (by simp) rfl
          have haX : a ∉ X ++ [m] := fun h => by
            rw [e, show X ++ m :: a :: Y = (X ++ [m]) ++ a :: Y by simp] at hnd
            exact (List.nodup_append.mp hnd).2.2 a h a (by simp) rfl
          rw [e, idx_split hmX, show X ++ m :: a :: Y = (X ++ [m]) ++ a :: Y by simp, idx_split haX]
          simp
        refine ⟨.inl hN, ?_, ?_⟩
        · unfold lowD; rw [hm]; simp [hN]
        · unfold highD; rw [hm]
          simp only
          split
          · omega
          · exact own
      · have hL := lead (by rw [tpl_some hm, if_neg hj])
        have hfx := tq_fix (row := row) (c := c) hma (Nat.lt_of_not_le hj) (row.length - a) (by omega) hup hle
        rw [show a + (row.length - a) = row.length by omega] at hfx
        refine ⟨.inr hL, ?_, ?_⟩
        · unfold lowD; rw [hm]
          simp only
          split <;> omega
        · unfold highD; rw [hm]
          simp [hL]; exact own
  exact ⟨fun k hk => (key k hk).1, fun k hk => (key k hk).2.1, fun k hk => (key k hk).2.2⟩
end LawP
set_option Elab.async false
set_option linter.all false
namespace LawP
open PySem VL
/-! ### stairs: the least and the greatest counts -/
def maxTo (f : Nat → Nat) : Nat → Nat
  | 0 => f 0
  | k + 1 => max (maxTo f k) (f (k + 1))
def minFrom (f : Nat → Nat) (k : Nat) : Nat → Nat
  | 0 => f k
  | d + 1 => min (minFrom f k d) (f (k + d + 1))
theorem maxTo_ge (f : Nat → Nat) : ∀ {k j : Nat}, j ≤ k → f j ≤ maxTo f k
  | 0, j, h => by have : j = 0 := by omega
                  subst this; exact Nat.le_refl _
  | k + 1, j, h => by
    unfold maxTo
    by_cases e : j = k + 1
    · subst e; omega
    · have := maxTo_ge f (k := k) (j := j) (by omega); omega
theorem maxTo_mem (f : Nat → Nat) : ∀ k, ∃ j, j ≤ k ∧ maxTo f k = f j
  | 0 => ⟨0, Nat.le_refl _, rfl⟩
  | k + 1 => by
    obtain ⟨j, h1, h2⟩ := maxTo_mem f k
    unfold maxTo
    by_cases c : maxTo f k ≤ f (k + 1)
    · exact ⟨k + 1, Nat.le_refl _, by omega⟩
    · exact ⟨j, by omega, by omega⟩
theorem minFrom_le (f : Nat → Nat) (k : Nat) : ∀ {d j : Nat}, j ≤ d → minFrom f k d ≤ f (k + j)
  | 0, j, h => by have : j = 0 := by omega
                  subst this; exact Nat.le_refl _
  | d + 1, j, h => by
    unfold minFrom
    by_cases e : j = d + 1
    · subst e; rw [← Nat.add_assoc]; omega
    · have := minFrom_le f k (d := d) (j := j) (by omega); omega
theorem minFrom_mem (f : Nat → Nat) (k : Nat) : ∀ d, ∃ j, j ≤ d ∧ minFrom f k d = f (k + j)
  | 0 => ⟨0, Nat.le_refl _, rfl⟩
  | d + 1 => by
    obtain ⟨j, h1, h2⟩ := minFrom_mem f k d
    unfold minFrom
    by_cases c : minFrom f k d ≤ f (k + d + 1)
    · exact ⟨j, by omega, by omega⟩
    · exact ⟨d + 1, Nat.le_refl _, by rw [← Nat.add_assoc]; omega⟩
def loS (row : List Int) (ms : List Nat) (k : Nat) : Nat := maxTo (lowD row ms) k
def hiS (row : List Int) (ms : List Nat) (k : Nat) : Nat := minFrom (highD row ms) k (row.length - 1 - k)
theorem loS_ge {row : List Int} {ms : List Nat} {j k : Nat} (h : j ≤ k) : lowD row ms j ≤ loS row ms k := maxTo_ge _ h
theorem loS_mem (row : List Int) (ms : List Nat) (k : Nat) : ∃ j, j ≤ k ∧ loS row ms k = lowD row ms j := maxTo_mem _ k
theorem hiS_le {row : List Int} {ms : List Nat} {j k : Nat} (h : k ≤ j) (hj : j < row.length) : hiS row ms k ≤ highD row ms j := by
  have := minFrom_le (highD row ms) k (d := row.length - 1 - k) (j := j - k) (by omega)
  rwa [show k + (j - k) = j by omega] at this
theorem hiS_mem {row : List Int} {ms : List Nat} {k : Nat} (hk : k < row.length) : ∃ j, k ≤ j ∧ j < row.length ∧ hiS row ms k = highD row ms j := by
  obtain ⟨j, h1, h2⟩ := minFrom_mem (highD row ms) k (row.length - 1 - k)
  exact ⟨k + j, by omega, by omega, h2⟩
theorem hiS_up {row : List Int} {ms : List Nat} {i j : Nat} (h : i ≤ j) (hj : j < row.length) : hiS row ms i ≤ hiS row ms j := by
  obtain ⟨k, h1, h2, h3⟩ := hiS_mem (ms := ms) hj
  rw [h3]; exact hiS_le (by omega) h2
theorem high_le (row : List Int) (ms : List Nat) (k : Nat) : highD row ms k ≤ ms.idxOf k := by
  unfold highD
  cases hm : mateOf row k with
  | none => exact Nat.le_refl _
  | some m =>
    simp only
    split
    · rename_i h
      simp at h
      obtain ⟨m', h1, h2⟩ := near_iff.mp h.1
      rw [hm] at h1; cases h1; omega
    · exact Nat.le_refl _
theorem low_high (row : List Int) (ms : List Nat) (k : Nat) : lowD row ms k ≤ highD row ms k := by
  unfold lowD highD
  cases hm : mateOf row k with
  | none => simp
  | some m =>
    simp only
    split
    · rename_i h
      simp at h
      rw [h.1]
      simp
      exact lead_iff.mp h.2 m (mateOf_lt hm).1
    · exact Nat.zero_le _
/-- the order is possible: no reason against it -/
def Poss (row : List Int) (ms : List Nat) : Prop := wrongL row ms = [] ∧ clashL row ms = []
theorem wrongL_nil {row : List Int} {ms : List Nat} : wrongL row ms = [] ↔ ∀ k, k < row.length → nearB row ms k = true ∨ leadB ms k = true := by
  unfold wrongL
  rw [List.filter_eq_nil_iff]
  constructor
  · intro h k hk
    have := h k (List.mem_range.mpr hk)
    revert this
    generalize nearB row ms k = a
    generalize leadB ms k = b
    cases a <;> cases b <;> simp
  · intro h k hk
    rcases h k (List.mem_range.mp hk) with e | e <;> simp [e]
theorem mem_clashL {row : List Int} {ms : List Nat} {a b : Nat} : (a, b) ∈ clashL row ms ↔ a < b ∧ b < row.length ∧ highD row ms b < lowD row ms a := by
  constructor
  · exact fun h => clashL_lt h
  · rintro ⟨h1, h2, h3⟩
    unfold clashL clashN
    refine List.mem_flatMap.mpr ⟨a, List.mem_range.mpr (by omega), ?_⟩
    unfold clashRow
    refine List.mem_map.mpr ⟨b - (a + 1), List.mem_filter.mpr ⟨List.mem_range.mpr (by omega), ?_⟩, ?_⟩
    · rw [show a + 1 + (b - (a + 1)) = b by omega]; simpa using h3
    · rw [show a + 1 + (b - (a + 1)) = b by omega]
theorem clashL_nil {row : List Int} {ms : List Nat} : clashL row ms = [] ↔ ∀ a b, a < b → b < row.length → lowD row ms a ≤ highD row ms b := by
  constructor
  · intro h a b h1 h2
    refine Nat.le_of_not_lt fun h3 => ?_
    have := mem_clashL.mpr ⟨h1, h2, h3⟩
    rw [h] at this; simp at this
  · intro h
    refine List.eq_nil_iff_forall_not_mem.mpr fun p hp => ?_
    have := clashL_lt hp
    have := h p.1 p.2 this.1 this.2.1
    omega
theorem Fits.poss {row : List Int} {ms : List Nat} {c : Nat → Nat} (hf : Fits row ms c) (hup : ∀ i j, i ≤ j → j < row.length → c i ≤ c j) : Poss row ms := by
  refine ⟨wrongL_nil.mpr hf.kd, clashL_nil.mpr fun a b h1 h2 => ?_⟩
  have := hf.lo a (by omega)
  have := hf.hi b h2
  have := hup a b (by omega) h2
  omega
theorem Poss.le {row : List Int} {ms : List Nat} (h : Poss row ms) {i j : Nat} (hij : i ≤ j) (hj : j < row.length) : lowD row ms i ≤ highD row ms j := by
  by_cases e : i = j
  · subst e; exact low_high row ms i
  · exact clashL_nil.mp h.2 i j (by omega) hj
theorem Poss.stairs {row : List Int} {ms : List Nat} (h : Poss row ms) {k : Nat} (hk : k < row.length) : loS row ms k ≤ hiS row ms k := by
  obtain ⟨i, h1, h2⟩ := loS_mem row ms k
  obtain ⟨j, h3, h4, h5⟩ := hiS_mem (ms := ms) hk
  rw [h2, h5]
  exact h.le (by omega) h4
theorem nodup_le : ∀ {ks ns : List Nat}, ks.Nodup → (∀ j, j ∈ ks → j ∈ ns) → ks.length ≤ ns.length
  | [], ns, _, _ => Nat.zero_le _
  | k :: ks, ns, hn, hs => by
    rw [List.nodup_cons] at hn
    have hk : k ∈ ns := hs k List.mem_cons_self
    have := nodup_le (ks := ks) (ns := ns.erase k) hn.2 fun j hj => by
      have ne : j ≠ k := fun e => hn.1 (e ▸ hj)
      exact (List.mem_erase_of_ne ne).mpr (hs j (List.mem_cons_of_mem _ hj))
    rw [List.length_erase_of_mem hk] at this
    have := List.length_pos_of_mem hk
    rw [List.length_cons]; omega
theorem hiS_le_self {row : List Int} {ms : List Nat} (hp : ms.Perm (List.range row.length)) {k : Nat} (hk : k < row.length) : hiS row ms k ≤ k := by
  have hl := perm_len hp
  obtain ⟨j, hj, hkj⟩ : ∃ j ∈ ms.take (k + 1), ¬ j < k := by
    refine Classical.byContradiction fun hno => ?_
    have hs : ∀ j ∈ ms.take (k + 1), j ∈ List.range k := fun j hj => List.mem_range.mpr (Classical.byContradiction fun c => hno ⟨j, hj, c⟩)
    have := nodup_le ((perm_nodup hp).sublist (List.take_sublist _ _)) hs
    rw [List.length_take, List.length_range] at this
    omega
  have hjm : j ∈ ms := List.mem_of_mem_take hj
  have hjn := (perm_mem hp).mp hjm
  have h1 := hiS_le (ms := ms) (show k ≤ j by omega) hjn
  have h2 := high_le row ms j
  have h3 : ms.idxOf j < k + 1 := by
    have := idx_lt_of (l2 := ms.drop (k + 1)) hj
    rw [List.take_append_drop, List.length_take] at this
    omega
  omega
def csHi (row : List Int) (ms : List Nat) : List Nat := (List.range row.length).map (hiS row ms)
def csLo (row : List Int) (ms : List Nat) : List Nat := (List.range row.length).map (loS row ms)
theorem fnOf_map {n k : Nat} (f : Nat → Nat) (h : k < n) : fnOf ((List.range n).map f) k = f k := by
  rw [fnOf_get (by simpa using h)]; simp
theorem csHi_ok {row : List Int} {ms : List Nat} (hp : ms.Perm (List.range row.length)) : CntOk row.length (csHi row ms) := by
  refine ⟨by simp [csHi], fun i j h1 h2 => ?_, fun i hi => ?_⟩
  · unfold csHi; rw [fnOf_map _ (by omega), fnOf_map _ h2]; exact hiS_up h1 h2
  · unfold csHi; rw [fnOf_map _ hi]; exact hiS_le_self hp hi
theorem csHi_fits {row : List Int} {ms : List Nat} (h : Poss row ms) : Fits row ms (fnOf (csHi row ms)) := by
  refine ⟨wrongL_nil.mp h.1, fun k hk => ?_, fun k hk => ?_⟩
  · unfold csHi; rw [fnOf_map _ hk]; exact Nat.le_trans (loS_ge (Nat.le_refl k)) (h.stairs hk)
  · unfold csHi; rw [fnOf_map _ hk]; exact hiS_le (Nat.le_refl k) hk
/-- histories and orders -/
theorem ord_iff {row : List Int} {ms w : List Nat} (hp : ms.Perm (List.range row.length)) (hw : HistW row.length w) : ordL row w = ms ↔ Fits row ms (fnOf (cntsL 0 w)) := by
  have hc := hw.cnt
  rw [ordL_tq hw]
  constructor
  · intro e
    have := tq_fits (row := row) (c := fnOf (cntsL 0 w)) hc.up hc.le
    rwa [e] at this
  · exact fun h => fits_tq hp h hc.up
theorem ord_word {row : List Int} {ms cs : List Nat} (hp : ms.Perm (List.range row.length)) (hc : CntOk row.length cs) (hf : Fits row ms (fnOf cs)) : HistW row.length (wordC row.length 0 cs) ∧ ordL row (wordC row.length 0 cs) = ms :=
  ⟨hc.hist, (ord_iff hp hc.hist).mpr (by rw [hc.cnts]; exact hf)⟩
theorem poss_iff {row : List Int} {ms : List Nat} (hp : ms.Perm (List.range row.length)) : Poss row ms ↔ ∃ w, HistW row.length w ∧ ordL row w = ms := by
  constructor
  · intro h
    exact ⟨_, ord_word hp (csHi_ok hp) (csHi_fits h)⟩
  · rintro ⟨w, hw, e⟩
    exact ((ord_iff hp hw).mp e).poss hw.cnt.up
end LawP
set_option Elab.async false
set_option linter.all false
namespace LawP
open PySem VL
/-! ### histories, tested -/
def goodB (n : Nat) : Nat → Nat → List Nat → Bool
  | a, s, [] => decide (a = n) && decide (s = n)
  | a, s, c :: w => (decide (c = 97) && (decide (a < n) && goodB n (a + 1) s w)) || (decide (c = 115) && (decide (s < a) && goodB n a (s + 1) w))
theorem goodB_iff {n : Nat} : ∀ {w : List Nat} {a s : Nat}, goodB n a s w = true ↔ goodW n a s w
  | [], a, s => by simp [goodB, goodW]
  | c :: w, a, s => by simp [goodB, goodW, goodB_iff (w := w)]
def histB (n : Nat) (p : PyData) : Bool := match p with
  | .str z => goodB n 0 0 (sl z)
  | _ => false
theorem good_counts {n : Nat} : ∀ {w : List Nat} {a s : Nat}, s ≤ a → a ≤ n → (goodW n a s w ↔ (a + w.count 97 = n ∧ s + w.count 115 = n ∧ a + s + w.length = 2 * n ∧ ∀ k, k < w.length → s + (w.take (k + 1)).count 115 ≤ a + (w.take (k + 1)).count 97))
  | [], a, s, _, _ => by simp [goodW]; omega
  | c :: w, a, s, h1, h2 => by
    constructor
    · rintro (⟨rfl, ha, h⟩ | ⟨rfl, ha, h⟩)
      · obtain ⟨e1, e2, e3, e4⟩ := (good_counts (w := w) (by omega) (by omega)).mp h
        refine ⟨by rw [List.count_cons_self]; omega, by rw [List.count_cons_of_ne (by decide)]; exact e2, by rw [List.length_cons]; omega, fun k hk => ?_⟩
        rw [List.take_succ_cons, List.count_cons_self, List.count_cons_of_ne (by decide)]
        cases k with
        | zero => simp; omega
        | succ k => have := e4 k (by simpa using hk); omega
      · obtain ⟨e1, e2, e3, e4⟩ := (good_counts (w := w) (by omega) (by omega)).mp h
        refine ⟨by rw [List.count_cons_of_ne (by decide)]; exact e1, by rw [List.count_cons_self]; omega, by rw [List.length_cons]; omega, fun k hk => ?_⟩
        rw [List.take_succ_cons, List.count_cons_self, List.count_cons_of_ne (by decide)]
        cases k with
        | zero => simp; omega
        | succ k => have := e4 k (by simpa using hk); omega
    · rintro ⟨e1, e2, e3, e4⟩
      rw [List.length_cons] at e3
      have hsum : w.count 97 + w.count 115 ≤ w.length := by
        clear e1 e2 e3 e4
        induction w with
        | nil => simp
        | cons d w ih =>
          by_cases c1 : d = 97
          · subst c1; rw [List.count_cons_self, List.count_cons_of_ne (by decide), List.length_cons]; omega
          · by_cases c2 : d = 115
            · subst c2; rw [List.count_cons_self, List.count_cons_of_ne (by decide), List.length_cons]; omega
            · rw [List.count_cons_of_ne c1, List.count_cons_of_ne c2, List.length_cons]; omega
      by_cases c1 : c = 97
      · subst c1
        rw [List.count_cons_self] at e1
        rw [List.count_cons_of_ne (by decide)] at e2
        refine .inl ⟨rfl, by omega, (good_counts (by omega) (by omega)).mpr ⟨by omega, e2, by omega, fun k hk => ?_⟩⟩
        have := e4 (k + 1) (by simpa using hk)
        rw [List.take_succ_cons, List.count_cons_self, List.count_cons_of_ne (by decide)] at this
        omega
      · by_cases c2 : c = 115
        · subst c2
          rw [List.count_cons_self] at e2
          rw [List.count_cons_of_ne (by decide)] at e1
          have h0 := e4 0 (by simp)
          simp at h0
          refine .inr ⟨rfl, by omega, (good_counts (by omega) (by omega)).mpr ⟨e1, by omega, by omega, fun k hk => ?_⟩⟩
          have := e4 (k + 1) (by simpa using hk)
          rw [List.take_succ_cons, List.count_cons_self, List.count_cons_of_ne (by decide)] at this
          omega
        · rw [List.count_cons_of_ne c1] at e1
          rw [List.count_cons_of_ne c2] at e2
          omega
theorem hist_counts {n : Nat} {w : List Nat} : HistW n w ↔ w.count 97 = n ∧ w.length = 2 * n ∧ w.count 115 = n ∧ ∀ k, k < w.length → (w.take (k + 1)).count 115 ≤ (w.take (k + 1)).count 97 := by
  unfold HistW
  rw [good_counts (Nat.le_refl _) (Nat.zero_le _)]
  simp only [Nat.zero_add]
  constructor
  · rintro ⟨a, b, c, d⟩; exact ⟨a, c, b, d⟩
  · rintro ⟨a, b, c, d⟩; exact ⟨a, c, b, d⟩
theorem wordC_len {n : Nat} {cs : List Nat} (h : CntOk n cs) : (wordC n 0 cs).length = 2 * n := h.hist.len
theorem flat_rep (k c : Nat) : (List.replicate k [c]).flatten = List.replicate k c := by
  induction k with
  | zero => rfl
  | succ k ih => rw [List.replicate_succ, List.flatten_cons, ih]; rfl
end LawP
set_option Elab.async false
set_option linter.all false
set_option maxRecDepth 100000
set_option maxHeartbeats 4000000
namespace LawP
open PySem PySem.Spec PyProof.Rows L2 VL
/-! ### stairs -/
theorem maxL_to (f : Nat → Nat) (k : Nat) : maxL ((List.range (k + 1)).map fun j => (f j : Int)) = (maxTo f k : Nat) := by
  have hne : (List.range (k + 1)).map (fun j => (f j : Int)) ≠ [] := by simp
  obtain ⟨h1, h2⟩ := maxL_spec _ hne
  obtain ⟨j, hj, e⟩ := List.mem_map.mp h1
  have hj := List.mem_range.mp hj
  obtain ⟨i, hi, e2⟩ := maxTo_mem f k
  have a := maxTo_ge f (k := k) (j := j) (by omega)
  have b := h2 (f i : Int) (List.mem_map.mpr ⟨i, List.mem_range.mpr (by omega), rfl⟩)
  omega
theorem minL_from (f : Nat → Nat) (k d : Nat) : minL ((List.range (d + 1)).map fun j => (f (k + j) : Int)) = (minFrom f k d : Nat) := by
  have hne : (List.range (d + 1)).map (fun j => (f (k + j) : Int)) ≠ [] := by simp
  obtain ⟨h1, h2⟩ := minL_spec _ hne
  obtain ⟨j, hj, e⟩ := List.mem_map.mp h1
  have hj := List.mem_range.mp hj
  obtain ⟨i, hi, e2⟩ := minFrom_mem f k d
  have a := minFrom_le f k (d := d) (j := j) (by omega)
  have b := h2 (f (k + i) : Int) (List.mem_map.mpr ⟨i, List.mem_range.mpr (by omega), rfl⟩)
  omega
@[simp] def S_stairs : SV := fun ds Q E => ∃ (row : List Int) (p : PyData), ds = [.py (tI row), .py p] ∧ row ≠ [] ∧ row.length ≤ 40 ∧ (∀ ms, p = tN ms → ms.Perm (List.range row.length) → Q (.py (.tuple [tN (csLo row ms), tN (csHi row ms)]))) ∧ (ordB row.length p = false → E ⟨"NoOrder", []⟩)
theorem take_range (n k : Nat) (h : k ≤ n) : (List.range n).take k = List.range k := by
  rw [List.take_range]; congr 1; omega
theorem drop_map_range {α : Type} (f : Nat → α) (n k : Nat) : ((List.range n).map f).drop k = (List.range (n - k)).map fun j => f (k + j) := by
  refine List.ext_getElem? fun i => ?_
  rw [List.getElem?_drop, List.getElem?_map, List.getElem?_map]
  by_cases h : i < n - k
  · rw [List.getElem?_range h, List.getElem?_range (by omega)]; rfl
  · rw [List.getElem?_eq_none (by simp; omega), List.getElem?_eq_none (by simp; omega)]; rfl
theorem l_stairs : ∀ ds Q E, S_stairs ds Q E → t_stairs S_greatest_counts S_least_counts (envOf 6 ds) (fin Q E) := by
  rintro ds Q E ⟨row, p, rfl, h0, h1, q1, q2⟩
  simp [t_stairs, -lcGo, -S_least_counts, -S_greatest_counts]
  refine ⟨row, p, rfl, h0, h1, fun ms e hp => ?_, q2⟩
  subst e
  have q := q1 ms rfl hp
  refine ⟨row, tN ms, rfl, h0, h1, fun ms' e _ => ?_, fun hb => by rw [ordB_tN hp] at hb; cases hb⟩
  obtain rfl := tN_inj.mp e
  have ll : (lowsL row ms).length = row.length := by simp [lowsL]
  have hl : (highsL row ms).length = row.length := by simp [highsL]
  simp [-lcGo, ll, hl]
  refine ⟨by omega, ?_⟩
  rw [rangeP_eq]
  refine lc_encM (encR 0) (fun k => pN (loS row ms k)) (fun i k hk kk k1 => ?_) (by simp; omega) ?_
  · obtain ⟨rfl, hk⟩ := range_get hk
    simp [lcStep]
    have ec : cutL ((lowsL row ms).map pN) none (some ((k : Int) + 1)) = ((List.range (k + 1)).map (lowD row ms)).map pN := by
      rw [cutL_take _ (by omega), ← List.map_take, show ((k : Int) + 1).toNat = k + 1 by omega]
      unfold lowsL
      rw [← List.map_take, take_range _ _ (by omega)]
    rw [ec]
    refine ⟨_, allI_pN _, by simp, ?_⟩
    rw [List.map_map]
    have := maxL_to (lowD row ms) k
    simp only [Function.comp_def]
    rw [this]
    exact k1
  · simp [-lcGo, hl]
    refine ⟨by omega, ?_⟩
    refine lc_encM' (encR 0) (fun k => pN (hiS row ms k)) (fun i k hk kk k1 => ?_) (by simp; omega) ?_
    · obtain ⟨rfl, hk⟩ := range_get hk
      simp [lcStep]
      have ec : cutL ((highsL row ms).map pN) (some (k : Int)) none = ((List.range (row.length - 1 - k + 1)).map fun j => highD row ms (k + j)).map pN := by
        rw [cutL_drop _ (by omega), ← List.map_drop, show (k : Int).toNat = k by omega]
        unfold highsL
        rw [drop_map_range, show row.length - 1 - k + 1 = row.length - k by omega]
      rw [ec]
      refine ⟨_, allI_pN _, by simp, ?_⟩
      rw [List.map_map]
      have := minL_from (highD row ms) k (row.length - 1 - k)
      simp only [Function.comp_def]
      rw [this]
      exact k1
    · simp at q ⊢
      simpa [csLo, csHi, Function.comp_def] using q
/-! ### the word of some counts -/
@[simp] def S_o_word_with : SV := fun ds Q _ => ∃ cs : List Nat, ds = [.py (tN cs)] ∧ cs.length ≤ 1000 ∧ (∀ c ∈ cs, c ≤ 1000) ∧ Q (.py (.str (mkS (wordC cs.length 0 cs))))
theorem l_o_word_with : ∀ ds Q E, S_o_word_with ds Q E → t_o_word_with (envOf 4 ds) (fin Q E) := by
  rintro ds Q E ⟨cs, rfl, h1, h2, q⟩
  simp [t_o_word_with, -forGo]
  refine for_enc' pN (fun k ρ => ∃ (acc : List Nat) (s : Nat) (x : VL.Slot), ρ = [.shr (.py (tN cs)), .shr (.py (.str (mkS acc))), .shr (.py (.int (s : Nat))), x] ∧ s ≤ 1000 ∧ acc.length ≤ 1001 * k ∧ acc ++ wordC cs.length s (cs.drop k) = wordC cs.length 0 cs) ⟨[], 0, .un, by simp, by omega, by simp, rfl⟩ (fun k c ρ hc iv nx ct hn => ?_) (fun ρ iv => ?_)
  · obtain ⟨acc, s, x, rfl, i1, i2, i3⟩ := iv
    have hk := (List.getElem?_eq_some_iff.mp hc).1
    have hc2 := h2 c (List.mem_of_getElem? hc)
    rw [drop_at' hc, show wordC cs.length s (c :: cs.drop (k + 1)) = List.replicate (c - s) 115 ++ 97 :: wordC cs.length c (cs.drop (k + 1)) from rfl] at i3
    have e : ((c : Int) - s).toNat = c - s := by omega
    simp [pN, flat_rep, e]
    refine ⟨⟨by omega, by omega, by omega⟩, by omega, by omega, (hn _ ⟨acc ++ (List.replicate (c - s) 115 ++ [97]), c, .shr (.py (pN c)), rfl, hc2, ?_, ?_⟩).1⟩
    · simp; omega
    · rw [← i3]; simp
  · obtain ⟨acc, s, x, rfl, i1, i2, i3⟩ := iv
    rw [List.drop_length, show wordC cs.length s [] = List.replicate (cs.length - s) 115 from rfl] at i3
    have e : ((cs.length : Int) - s).toNat = cs.length - s := by omega
    simp [flat_rep, e]
    refine ⟨⟨by omega, by omega, by omega⟩, by omega, ?_⟩
    rw [i3]
    exact q
/-! ### verdict -/
def verdP (row : List Int) (ms : List Nat) : PyData := match wrongL row ms with
  | k :: _ => .tuple [.str "place", pN k]
  | [] => match clashL row ms with
    | c :: _ => .tuple [.str "clash", pN c.1, pN c.2]
    | [] => .tuple [.str "history", .str (mkS (wordC row.length 0 (csHi row ms)))]
@[simp] def S_verdict : SV := fun ds Q E => ∃ (row : List Int) (p : PyData), ds = [.py (tI row), .py p] ∧ row ≠ [] ∧ row.length ≤ 40 ∧ (∀ ms, p = tN ms → ms.Perm (List.range row.length) → Q (.py (verdP row ms))) ∧ (ordB row.length p = false → E ⟨"NoOrder", []⟩)
theorem csHi_le {row : List Int} {ms : List Nat} (hp : ms.Perm (List.range row.length)) (h1 : row.length ≤ 40) : ∀ c ∈ csHi row ms, c ≤ 1000 := fun c hc => by
  obtain ⟨k, hk, rfl⟩ := List.mem_map.mp hc
  have hk := List.mem_range.mp hk
  have := hiS_le_self hp hk
  omega
theorem l_verdict : ∀ ds Q E, S_verdict ds Q E → t_verdict S_clashes S_misplaced S_o_word_with S_stairs (envOf 4 ds) (fin Q E) := by
  rintro ds Q E ⟨row, p, rfl, h0, h1, q1, q2⟩
  simp [t_verdict, -S_clashes, -S_misplaced, -S_o_word_with, -S_stairs]
  refine ⟨row, p, rfl, h0, h1, fun ms e hp => ?_, q2⟩
  subst e
  have q := q1 ms rfl hp
  refine ⟨row, tN ms, rfl, h0, h1, fun ms' e _ => ?_, fun hb => by rw [ordB_tN hp] at hb; cases hb⟩
  obtain rfl := tN_inj.mp e
  unfold verdP at q
  cases hw : wrongL row ms with
  | cons k r =>
    rw [hw] at q
    simpa using q
  | nil =>
    rw [hw] at q
    cases hc : clashL row ms with
    | cons c r =>
      rw [hc] at q
      dsimp only at q
      simp [pairP]
      exact q
    | nil =>
      rw [hc] at q
      simp [-S_o_word_with, -S_stairs]
      refine ⟨row, tN ms, rfl, h0, h1, fun ms' e _ => ?_, fun hb => by rw [ordB_tN hp] at hb; cases hb⟩
      obtain rfl := tN_inj.mp e
      have hl : (csHi row ms).length = row.length := by simp [csHi]
      simp [-S_o_word_with]
      refine ⟨csHi row ms, rfl, by omega, csHi_le hp h1, ?_⟩
      rw [hl]
      dsimp only at q
      simpa using q
/-! ### the law's own look at words, all orders -/
@[simp] def S_j_is_word : SV := fun ds Q _ => ∃ (n : Nat) (p : PyData), ds = [.py (.int (n : Nat)), .py p] ∧ n ≤ 1000 ∧ (∀ z, p = .str z → z.length ≤ 100000) ∧ Q (.py (.bool (histB n p)))
@[simp] def S_j_all_orders : SV := fun ds Q _ => ∃ n : Nat, ds = [.py (.int (n : Nat))] ∧ 1 ≤ n ∧ n ≤ 5 ∧ ∀ L : List (List Nat), (∀ ms ∈ L, ms.Perm (List.range n)) → L.length ≤ 7776 → Q (.py (.list (L.map tN)))
end LawP
set_option Elab.async false
set_option linter.all false
set_option maxRecDepth 100000
set_option maxHeartbeats 4000000
namespace LawP
open PySem PySem.Spec PyProof.Rows L2 VL
def t_is_possible (S_clashes : SV) (S_misplaced : SV) : VS :=
  (sRet (vAnd (vBin gEq (vCall S_misplaced (vCons (vVar 0) (vCons (vVar 1) vNil))) (vTup vNil)) (vBin gEq (vCall S_clashes (vCons (vVar 0) (vCons (vVar 1) vNil))) (vTup vNil))))
end LawP
set_option Elab.async false
set_option linter.all false
namespace LawP
open PySem VL
/-! ### all histories, letter by letter -/
theorem okP_goodW {n : Nat} : ∀ {w : List Nat} {a s : Nat}, okP n a s w → w.length + a + s = 2 * n → a ≤ n → s ≤ a → goodW n a s w
  | [], a, s, _, h1, h2, h3 => by simp at h1; exact ⟨by omega, by omega⟩
  | c :: w, a, s, h, h1, h2, h3 => by
    simp at h1
    rcases h with ⟨e, ha, h⟩ | ⟨e, ha, h⟩
    · exact .inl ⟨e, ha, okP_goodW h (by omega) (by omega) (by omega)⟩
    · exact .inr ⟨e, ha, okP_goodW h (by omega) (by omega) (by omega)⟩
theorem okP_snoc {n c : Nat} : ∀ {w : List Nat} {a s : Nat}, okP n a s (w ++ [c]) ↔ okP n a s w ∧ ((c = 97 ∧ a + w.count 97 < n) ∨ (c = 115 ∧ s + w.count 115 < a + w.count 97))
  | [], a, s => by simp [okP]
  | d :: w, a, s => by
    rw [List.cons_append]
    constructor
    · rintro (⟨rfl, ha, h⟩ | ⟨rfl, ha, h⟩)
      · obtain ⟨h1, h2⟩ := okP_snoc.mp h
        refine ⟨.inl ⟨rfl, ha, h1⟩, ?_⟩
        rw [List.count_cons_self, List.count_cons_of_ne (by decide)]
        rcases h2 with ⟨e, h2⟩ | ⟨e, h2⟩
        · exact .inl ⟨e, by omega⟩
        · exact .inr ⟨e, by omega⟩
      · obtain ⟨h1, h2⟩ := okP_snoc.mp h
        refine ⟨.inr ⟨rfl, ha, h1⟩, ?_⟩
        rw [List.count_cons_self, List.count_cons_of_ne (by decide)]
        rcases h2 with ⟨e, h2⟩ | ⟨e, h2⟩
        · exact .inl ⟨e, by omega⟩
        · exact .inr ⟨e, by omega⟩
    · rintro ⟨⟨rfl, ha, h⟩ | ⟨rfl, ha, h⟩, h2⟩
      · rw [List.count_cons_self, List.count_cons_of_ne (by decide)] at h2
        refine .inl ⟨rfl, ha, okP_snoc.mpr ⟨h, ?_⟩⟩
        rcases h2 with ⟨e, h2⟩ | ⟨e, h2⟩
        · exact .inl ⟨e, by omega⟩
        · exact .inr ⟨e, by omega⟩
      · rw [List.count_cons_self, List.count_cons_of_ne (by decide)] at h2
        refine .inr ⟨rfl, ha, okP_snoc.mpr ⟨h, ?_⟩⟩
        rcases h2 with ⟨e, h2⟩ | ⟨e, h2⟩
        · exact .inl ⟨e, by omega⟩
        · exact .inr ⟨e, by omega⟩
theorem okP_le {n : Nat} {w : List Nat} (h : okP n 0 0 w) : w.count 115 ≤ w.count 97 ∧ w.count 97 ≤ n := by
  rcases List.eq_nil_or_concat w with rfl | ⟨v, c, rfl⟩
  · simp
  · rw [List.concat_eq_append] at h ⊢
    obtain ⟨h1, h2⟩ := okP_snoc.mp h
    have ih := okP_le h1
    rw [List.count_append, List.count_append]
    rcases h2 with ⟨rfl, h2⟩ | ⟨rfl, h2⟩
    · simp; omega
    · simp; omega
termination_by w.length
decreasing_by subst_vars; simp
theorem hist_okP {n : Nat} {w : List Nat} : HistW n w ↔ okP n 0 0 w ∧ w.length = 2 * n :=
  ⟨fun h => ⟨goodW_okP h, h.len⟩, fun h => okP_goodW h.1 (by omega) (Nat.zero_le _) (Nat.le_refl _)⟩
end LawP
set_option Elab.async false
set_option linter.all false
set_option maxRecDepth 100000
set_option maxHeartbeats 4000000
namespace LawP
open PySem PySem.Spec PyProof.Rows L2 VL
def possB (row : List Int) (ms : List Nat) : Bool := (wrongL row ms).isEmpty && (clashL row ms).isEmpty
theorem possB_iff {row : List Int} {ms : List Nat} : possB row ms = true ↔ Poss row ms := by
  unfold possB Poss
  rw [Bool.and_eq_true, List.isEmpty_iff, List.isEmpty_iff]
@[simp] def S_is_possible : SV := fun ds Q E => ∃ (row : List Int) (p : PyData), ds = [.py (tI row), .py p] ∧ row ≠ [] ∧ row.length ≤ 40 ∧ (∀ ms, p = tN ms → ms.Perm (List.range row.length) → Q (.py (.bool (possB row ms)))) ∧ (ordB row.length p = false → E ⟨"NoOrder", []⟩)
theorem l_is_possible : ∀ ds Q E, S_is_possible ds Q E → t_is_possible S_clashes S_misplaced (envOf 2 ds) (fin Q E) := by
  rintro ds Q E ⟨row, p, rfl, h0, h1, q1, q2⟩
  simp [t_is_possible, -S_clashes, -S_misplaced]
  refine ⟨row, p, rfl, h0, h1, fun ms e hp => ?_, q2⟩
  subst e
  have q := q1 ms rfl hp
  unfold possB at q
  cases hw : (wrongL row ms).isEmpty with
  | false =>
    rw [hw] at q
    simp [hw]
    simpa using q
  | true =>
    rw [hw] at q
    simp [hw, -S_clashes]
    refine ⟨row, tN ms, rfl, h0, h1, fun ms' e _ => ?_, q2⟩
    obtain rfl := tN_inj.mp e
    simpa using q
@[simp] def S_j_words : SV := fun ds Q _ => ∃ n : Nat, ds = [.py (.int (n : Nat))] ∧ n ≤ 10 ∧ ∀ L : List (List Nat), (∀ w, w ∈ L ↔ HistW n w) → L.length ≤ 2 ^ (2 * n) → Q (.py (.list (L.map fun w => PyData.str (mkS w))))
/-! ### lists of orders -/
end LawP
set_option Elab.async false
set_option linter.all false
set_option maxRecDepth 100000
set_option maxHeartbeats 4000000
namespace LawP
open PySem PySem.Spec PyProof.Rows L2 VL
def t_counts_in : VS :=
  (sSeq (sIf (wOr (vTst (vBin gNe (vCal gLen (vCons (vBor 1) vNil)) (vBin gMulA (vC (.py (.int 2))) (vCal gLen (vCons (vBor 0) vNil))))) (wOr (vTst (vBin gNe (vMth isCt gCount (vBor 1) (vCons (vC (.py (.str "a"))) vNil)) (vCal gLen (vCons (vBor 0) vNil)))) (vTst (vBin gNe (vMth isCt gCount (vBor 1) (vCons (vC (.py (.str "s"))) vNil)) (vCal gLen (vCons (vBor 0) vNil))))))
  (sRet (vC (.py .none)))
  sNext)
  (sSeq (sPar [2, 3] (mCons true (vLst vNil) (mCons false (vC (.py (.int 0))) mNil)))
  (sSeq (sFor (iS (vVar 1)) (tgName 4)
  (sIf (vTst (vBin gEq (vBor 4) (vC (.py (.str "a")))))
  (sMut 2 gApp (vCons (vVar 3) vNil))
  (sSeq (sAugA 3 gAugAdd (vC (.py (.int 1))))
  (sIf (vTst (vBin gGt (vBor 3) (vCal gLen (vCons (vBor 2) vNil))))
  (sRet (vC (.py .none)))
  sNext))))
  (sFrz 2 (sRet (vVar 2))))))
def t_fits (S_greatest_counts : SV) (S_least_counts : SV) : VS :=
  (sSeq (sPar [3, 4] (mCons false (vCall S_least_counts (vCons (vVar 0) (vCons (vVar 1) vNil))) (mCons false (vCall S_greatest_counts (vCons (vVar 0) (vCons (vVar 1) vNil))) mNil)))
  (sRet (vCal gAll (vCons (vLc [5, 6, 7] (iZ3 (vCons (vBor 3) (vCons (vBor 2) (vCons (vBor 4) vNil)))) (tgTup 3 (tgCons (tgName 5) (tgCons (tgName 6) (tgCons (tgName 7) tgNil)))) wYes (vChain gLe gLe (vBor 5) (vBor 6) (vBor 7))) vNil))))
def t_history_holds (S_is_possible : SV) (S_counts_in : SV) (S_fits : SV) : VS :=
  (sSeq (sIf (wOr (wNot (vTst (vCal gIsi (vCons (vBor 2) (vCons (vC (.raw (.ty "str"))) vNil))))) (wNot (vTst (vCall S_is_possible (vCons (vVar 0) (vCons (vVar 1) vNil))))))
  (sRet (vC (.py (.bool false))))
  sNext)
  (sSeq (sSet 3 (vCall S_counts_in (vCons (vVar 0) (vCons (vVar 2) vNil))))
  (sRet (vAnd (vBin (gIsN true) (vBor 3) (vC (.py .none))) (vCall S_fits (vCons (vVar 0) (vCons (vVar 1) (vCons (vVar 3) vNil))))))))
def t_verdict_holds (S_clashes : SV) (S_misplaced : SV) (S_is_number : SV) (S_history_holds : SV) : VS :=
  (sSeq (sPar [3, 4] (mCons false (vCall S_misplaced (vCons (vVar 0) (vCons (vVar 1) vNil))) (mCons false (vCall S_clashes (vCons (vVar 0) (vCons (vVar 1) vNil))) mNil)))
  (sSeq (sIf (wOr (wNot (vTst (vCal gIsi (vCons (vBor 2) (vCons (vC (.raw (.ty "tuple"))) vNil))))) (wOr (vTst (vBin gLt (vCal gLen (vCons (vBor 2) vNil)) (vC (.py (.int 2))))) (wNot (vTst (vCal gIsi (vCons (vBin gIx (vBor 2) (vC (.py (.int 0)))) (vCons (vC (.raw (.ty "str"))) vNil)))))))
  (sRet (vC (.py (.bool false))))
  sNext)
  (sSeq (sIf (wNot (vTst (vCal gAll (vCons (vLc [5] (iS (vBor 2)) (tgName 5) wYes (vOr (vCal gIsi (vCons (vBor 5) (vCons (vC (.raw (.ty "str"))) vNil))) (vCall S_is_number (vCons (vVar 5) (vCons (vC (.py (.int 0))) (vCons (vCal gLen (vCons (vBor 0) vNil)) vNil)))))) vNil))))
  (sRet (vC (.py (.bool false))))
  sNext)
  (sSeq (sIf (vTst (vBin gEq (vBin gIx (vBor 2) (vC (.py (.int 0)))) (vC (.py (.str "history")))))
  (sRet (vAnd (vBin gEq (vCal gLen (vCons (vBor 2) vNil)) (vC (.py (.int 2)))) (vCall S_history_holds (vCons (vVar 0) (vCons (vVar 1) (vCons (vBin gIx (vBor 2) (vC (.py (.int 1)))) vNil))))))
  sNext)
  (sSeq (sIf (vTst (vBin gEq (vBin gIx (vBor 2) (vC (.py (.int 0)))) (vC (.py (.str "place")))))
  (sRet (vAnd (vBin gEq (vCal gLen (vCons (vBor 2) vNil)) (vC (.py (.int 2)))) (vBin (gIn false) (vBin gIx (vBor 2) (vC (.py (.int 1)))) (vBor 3))))
  sNext)
  (sRet (vAnd (vBin gEq (vBin gIx (vBor 2) (vC (.py (.int 0)))) (vC (.py (.str "clash")))) (vBin (gIn false) (vSl gSl (vBor 2) (oAt (vC (.py (.int 1)))) oNo) (vBor 4)))))))))
end LawP
set_option Elab.async false
set_option linter.all false
set_option maxRecDepth 100000
set_option maxHeartbeats 4000000
namespace LawP
open PySem PySem.Spec PyProof.Rows L2 VL
/-! ### counts of a string, if it is a history -/
def cntP (n : Nat) (w : List Nat) : PyData := if goodB n 0 0 w = true then .list ((cntsL 0 w).map pN) else .none
@[simp] def S_counts_in : SV := fun ds Q _ => ∃ (row : List Int) (w : List Nat), ds = [.py (tI row), .py (.str (mkS w))] ∧ row.length ≤ 1000 ∧ w.length ≤ 100000 ∧ Q (.py (cntP row.length w))
theorem good_iff {n : Nat} {w : List Nat} : goodB n 0 0 w = true ↔ HistW n w := goodB_iff
theorem l_counts_in : ∀ ds Q E, S_counts_in ds Q E → t_counts_in (envOf 5 ds) (fin Q E) := by
  rintro ds Q E ⟨row, w, rfl, h1, hw, q⟩
  have qn : ¬ HistW row.length w → Q (.py .none) := fun h => by
    have e : cntP row.length w = .none := by unfold cntP; rw [if_neg fun g => h (good_iff.mp g)]
    rw [e] at q; exact q
  have qy : HistW row.length w → Q (.py (.list ((cntsL 0 w).map pN))) := fun h => by
    have e : cntP row.length w = .list ((cntsL 0 w).map pN) := by unfold cntP; rw [if_pos (good_iff.mpr h)]
    rw [e] at q; exact q
  clear q
  simp [t_counts_in, -forGo]
  by_cases e1 : w.length = 2 * row.length
  · by_cases e2 : w.count 97 = row.length
    · by_cases e3 : w.count 115 = row.length
      · have let_ : ∀ c ∈ w, c = 97 ∨ c = 115 := by
          intro c hc
          refine Classical.byContradiction fun hno => ?_
          have key : ∀ v : List Nat, v.count 97 + v.count 115 ≤ v.length ∧ (c ∈ v → v.count 97 + v.count 115 < v.length) := by
            intro v
            induction v with
            | nil => simp
            | cons d v ih =>
              obtain ⟨i1, i2⟩ := ih
              by_cases c1 : d = 97
              · subst c1
                refine ⟨by rw [List.count_cons_self, List.count_cons_of_ne (by decide), List.length_cons]; omega, fun h => ?_⟩
                rcases List.mem_cons.mp h with rfl | h
                · exact absurd (.inl rfl) hno
                · have := i2 h; rw [List.count_cons_self, List.count_cons_of_ne (by decide), List.length_cons]; omega
              · by_cases c2 : d = 115
                · subst c2
                  refine ⟨by rw [List.count_cons_self, List.count_cons_of_ne (by decide), List.length_cons]; omega, fun h => ?_⟩
                  rcases List.mem_cons.mp h with rfl | h
                  · exact absurd (.inr rfl) hno
                  · have := i2 h; rw [List.count_cons_self, List.count_cons_of_ne (by decide), List.length_cons]; omega
                · rw [List.count_cons_of_ne c1, List.count_cons_of_ne c2, List.length_cons]
                  exact ⟨by omega, fun _ => by omega⟩
          have := (key w).2 hc
          omega
        simp [e1, e2, e3, signsD_mkS, -forGo]
        refine ⟨by omega, for_enc' encC (fun k ρ => ∃ (cs : List Nat) (x : VL.Slot), ρ = [.shr (.py (tI row)), .shr (.py (.str (mkS w))), .own (.py (.list (cs.map pN))), .shr (.py (.int ((w.take k).count 115 : Nat))), x] ∧
          okP row.length 0 0 (w.take k) ∧ cs.length = (w.take k).count 97 ∧ cs ++ cntsL ((w.take k).count 115) (w.drop k) = cntsL 0 w) ⟨[], .un, rfl, trivial, rfl, rfl⟩ (fun k c ρ hc iv nx ct hn => ?_) (fun ρ iv => ?_)⟩
        · obtain ⟨cs, x, rfl, i1, i2, i3⟩ := iv
          have hk := (List.getElem?_eq_some_iff.mp hc).1
          have ht := take_succ_get hc
          have hle := okP_le i1
          have hcount : w.count 97 = (w.take (k + 1)).count 97 + (w.drop (k + 1)).count 97 := by rw [← List.count_append, List.take_append_drop]
          rw [drop_at' hc] at i3
          rcases let_ c (List.mem_of_getElem? hc) with rfl | rfl
          · rw [cntsL_a] at i3
            have c97 : (w.take (k + 1)).count 97 = (w.take k).count 97 + 1 := by rw [ht, List.count_append]; simp
            have c115 : (w.take (k + 1)).count 115 = (w.take k).count 115 := by rw [ht, List.count_append]; simp
            simp
            refine ⟨by omega, (hn _ ⟨cs ++ [(w.take k).count 115], .shr (.py (.str (mkS [97]))), by rw [c115, List.map_append]; rfl, ?_, by rw [c97, List.length_append, i2]; rfl, by rw [c115, List.append_assoc]; exact i3⟩).1⟩
            rw [ht]
            exact okP_snoc.mpr ⟨i1, .inl ⟨rfl, by omega⟩⟩
          · rw [cntsL_s] at i3
            have c97 : (w.take (k + 1)).count 97 = (w.take k).count 97 := by rw [ht, List.count_append]; simp
            have c115 : (w.take (k + 1)).count 115 = (w.take k).count 115 + 1 := by rw [ht, List.count_append]; simp
            by_cases hgt : (w.take k).count 115 + 1 > cs.length
            · simp
              rw [if_pos (by omega)]
              refine qn fun hh => ?_
              have := (hist_counts.mp hh).2.2.2 k hk
              omega
            · simp
              rw [if_neg (by omega)]
              refine (hn _ ⟨cs, .shr (.py (.str (mkS [115]))), by rw [c115]; rfl, ?_, by rw [c97, i2], by rw [c115]; exact i3⟩).1
              rw [ht]
              exact okP_snoc.mpr ⟨i1, .inr ⟨rfl, by omega⟩⟩
        · obtain ⟨cs, x, rfl, i1, i2, i3⟩ := iv
          rw [List.drop_length, List.take_length] at i3
          rw [List.take_length] at i1
          have e : cs = cntsL 0 w := by simpa [cntsL] using i3
          subst e
          simp
          exact qy (hist_okP.mpr ⟨i1, e1⟩)
      · have := qn fun h => e3 (hist_counts.mp h).2.2.1
        simp [e1, e2, show ¬ ((w.count 115 : Nat) : Int) = row.length by omega]
        exact ⟨by omega, this⟩
    · have := qn fun h => e2 (hist_counts.mp h).1
      simp [e1, show ¬ ((w.count 97 : Nat) : Int) = row.length by omega]
      exact ⟨by omega, this⟩
  · have := qn fun h => e1 (hist_counts.mp h).2.1
    simp [show ¬ (w.length : Int) = 2 * row.length by omega]
    exact ⟨by omega, this⟩
/-! ### counts between the demands -/
def fitB (row : List Int) (ms cs : List Nat) : Bool := (List.range row.length).all fun k => decide (lowD row ms k ≤ fnOf cs k) && decide (fnOf cs k ≤ highD row ms k)
@[simp] def S_fits : SV := fun ds Q E => ∃ (row : List Int) (p : PyData) (cs : List Nat), ds = [.py (tI row), .py p, .py (.list (cs.map pN))] ∧ row ≠ [] ∧ row.length ≤ 40 ∧ cs.length = row.length ∧ (∀ ms, p = tN ms → ms.Perm (List.range row.length) → Q (.py (.bool (fitB row ms cs)))) ∧ (ordB row.length p = false → E ⟨"NoOrder", []⟩)
theorem l_fits : ∀ ds Q E, S_fits ds Q E → t_fits S_greatest_counts S_least_counts (envOf 8 ds) (fin Q E) := by
  rintro ds Q E ⟨row, p, cs, rfl, h0, h1, hcs, q1, q2⟩
  simp [t_fits, -lcGo, -S_greatest_counts, -S_least_counts]
  refine ⟨row, p, rfl, h0, h1, fun ms e hp => ?_, q2⟩
  subst e
  have q := q1 ms rfl hp
  refine ⟨row, tN ms, rfl, h0, h1, fun ms' e _ => ?_, q2⟩
  obtain rfl := tN_inj.mp e
  have ec : cs.map pN = (List.range row.length).map fun k => pN (fnOf cs k) := by
    refine List.ext_getElem? fun i => ?_
    rw [List.getElem?_map, List.getElem?_map]
    by_cases h : i < row.length
    · rw [List.getElem?_range h, List.getElem?_eq_getElem (by omega)]
      simp [fnOf_get (show i < cs.length by omega)]
    · rw [List.getElem?_eq_none (by omega), List.getElem?_eq_none (by simp; omega)]; rfl
  have ez : zip3P ((lowsL row ms).map pN) (cs.map pN) ((highsL row ms).map pN) = (List.range row.length).map fun k => PyData.tuple [pN (lowD row ms k), pN (fnOf cs k), pN (highD row ms k)] := by
    rw [ec]
    unfold lowsL highsL
    rw [List.map_map, List.map_map]
    exact zip_range3 _ _ _
  simp [-lcGo]
  rw [ez]
  refine lc_encM (fun k => PyData.tuple [pN (lowD row ms k), pN (fnOf cs k), pN (highD row ms k)]) (fun k => PyData.bool (decide (lowD row ms k ≤ fnOf cs k) && decide (fnOf cs k ≤ highD row ms k))) (fun i k hk kk k1 => ?_) (by simp; omega) ?_
  · simp [lcStep, pN]
    by_cases c1 : lowD row ms k ≤ fnOf cs k <;> by_cases c2 : fnOf cs k ≤ highD row ms k <;> simp [c1, c2] at k1 ⊢ <;> exact k1
  · simp
    have eb : (List.range row.length).map (fun k => PyData.bool (decide (lowD row ms k ≤ fnOf cs k) && decide (fnOf cs k ≤ highD row ms k))) = ((List.range row.length).map fun k => (decide (lowD row ms k ≤ fnOf cs k) && decide (fnOf cs k ≤ highD row ms k))).map PyData.bool := by rw [List.map_map]; rfl
    rw [eb]
    refine ⟨_, allB_mk _, ?_⟩
    rw [List.all_map]
    exact q
/-! ### histories with an order -/
def hisB (row : List Int) (ms : List Nat) (p : PyData) : Bool := match p with
  | .str z => goodB row.length 0 0 (sl z) && decide (ordL row (sl z) = ms)
  | _ => false
theorem fitB_iff {row : List Int} {ms w : List Nat} (hp : ms.Perm (List.range row.length)) (hw : HistW row.length w) (hq : Poss row ms) : fitB row ms (cntsL 0 w) = decide (ordL row w = ms) := by
  rw [Bool.eq_iff_iff, decide_eq_true_eq, ord_iff hp hw]
  unfold fitB
  rw [List.all_eq_true]
  constructor
  · intro h
    refine ⟨wrongL_nil.mp hq.1, fun k hk => ?_, fun k hk => ?_⟩
    · have := h k (List.mem_range.mpr hk); simp at this; exact this.1
    · have := h k (List.mem_range.mpr hk); simp at this; exact this.2
  · intro h k hk
    have hk := List.mem_range.mp hk
    simp [h.lo k hk, h.hi k hk]
@[simp] def S_history_holds : SV := fun ds Q E => ∃ (row : List Int) (p v : PyData), ds = [.py (tI row), .py p, .py v] ∧ row ≠ [] ∧ row.length ≤ 40 ∧ (∀ z, v = .str z → z.length ≤ 100000) ∧ (∀ ms, p = tN ms → ms.Perm (List.range row.length) → Q (.py (.bool (hisB row ms v)))) ∧ ∃ ms : List Nat, p = tN ms ∧ ms.Perm (List.range row.length)
theorem l_history_holds : ∀ ds Q E, S_history_holds ds Q E → t_history_holds S_is_possible S_counts_in S_fits (envOf 4 ds) (fin Q E) := by
  rintro ds Q E ⟨row, p, v, rfl, h0, h1, hs, q1, ms, rfl, hp⟩
  have q := q1 ms rfl hp
  have no : ∀ (P : Prop), ordB row.length (tN ms) = false → P := fun P hb => by rw [ordB_tN hp] at hb; cases hb
  cases v
  case str z =>
    obtain ⟨w, rfl⟩ : ∃ w, z = mkS w := ⟨sl z, (mkS_sl z).symm⟩
    have hw : w.length ≤ 100000 := by have := hs _ rfl; simpa using this
    have qq : Q (.py (.bool (goodB row.length 0 0 w && decide (ordL row w = ms)))) := by
      have e : hisB row ms (.str (mkS w)) = (goodB row.length 0 0 w && decide (ordL row w = ms)) := by unfold hisB; simp only [sl_mkS]
      rw [e] at q; exact q
    simp [t_history_holds, -S_is_possible, -S_counts_in, -S_fits]
    refine ⟨row, tN ms, rfl, h0, h1, fun ms' e _ => ?_, no _⟩
    obtain rfl := tN_inj.mp e
    cases hpo : possB row ms with
    | false =>
      simp
      have : (goodB row.length 0 0 w && decide (ordL row w = ms)) = false := by
        rw [Bool.and_eq_false_iff]
        by_cases g : goodB row.length 0 0 w = true
        · refine .inr (decide_eq_false fun e => ?_)
          have := possB_iff.mpr ((poss_iff hp).mpr ⟨w, good_iff.mp g, e⟩)
          rw [hpo] at this; cases this
        · exact .inl (by simpa using g)
      rw [this] at qq
      exact qq
    | true =>
      simp [-S_counts_in, -S_fits]
      refine ⟨row, w, rfl, by omega, hw, ?_⟩
      by_cases g : goodB row.length 0 0 w = true
      · have hh := good_iff.mp g
        have e : cntP row.length w = .list ((cntsL 0 w).map pN) := by unfold cntP; rw [if_pos g]
        rw [e]
        simp [-S_fits]
        refine ⟨row, tN ms, cntsL 0 w, rfl, h0, h1, hh.cnt.len, fun ms' e _ => ?_, no _⟩
        obtain rfl := tN_inj.mp e
        rw [fitB_iff hp hh (possB_iff.mp hpo)]
        rw [g, Bool.true_and] at qq
        exact qq
      · have e : cntP row.length w = .none := by unfold cntP; rw [if_neg g]
        rw [e]
        have g' : goodB row.length 0 0 w = false := by simpa using g
        rw [g', Bool.false_and] at qq
        simpa using qq
  all_goals (simp [t_history_holds, hisB] at q ⊢; exact q)
/-! ### right verdicts -/
def vitB (n : Nat) (x : PyData) : Bool := match x with
  | .str _ => true
  | .int i => decide (0 ≤ i) && decide (i ≤ n)
  | _ => false
def inW (row : List Int) (ms : List Nat) (x : PyData) : Bool := ((wrongL row ms).map pN).any fun y => PyData.eqv y x
def inC (row : List Int) (ms : List Nat) (ys : List PyData) : Bool := ((clashL row ms).map pairP).any fun y => PyData.eqv y (.tuple ys)
def rightB (row : List Int) (ms : List Nat) (v : PyData) : Bool := match v with
  | .tuple (.str z :: x :: rest) => (vitB row.length x && rest.all (vitB row.length)) && (if z = Str.ofString "history" then rest.isEmpty && hisB row ms x else if z = Str.ofString "place" then rest.isEmpty && inW row ms x else decide (z = Str.ofString "clash") && inC row ms (x :: rest))
  | _ => false
@[simp] def S_verdict_holds : SV := fun ds Q E => ∃ (row : List Int) (p v : PyData), ds = [.py (tI row), .py p, .py v] ∧ row ≠ [] ∧ row.length ≤ 40 ∧ (∀ xs, v = .tuple xs → xs.length ≤ 1000 ∧ ∀ z, PyData.str z ∈ xs → z.length ≤ 100000) ∧ (∀ ms, p = tN ms → ms.Perm (List.range row.length) → Q (.py (.bool (rightB row ms v)))) ∧ (ordB row.length p = false → E ⟨"NoOrder", []⟩)
theorem plain_pairP (A : List (Nat × Nat)) : PyData.plainAll (A.map pairP) = true := by
  induction A with
  | nil => rfl
  | cons a A ih => rw [List.map_cons, PyData.plainAll, ih]; rfl
theorem depth_pairP (A : List (Nat × Nat)) : PyData.depthAll (A.map pairP) ≤ 1 := by
  induction A with
  | nil => exact Nat.zero_le _
  | cons a A ih =>
    rw [List.map_cons, PyData.depthAll]
    have : (pairP a).depth = 1 := rfl
    omega
theorem l_verdict_holds : ∀ ds Q E, S_verdict_holds ds Q E → t_verdict_holds S_clashes S_misplaced S_is_number S_history_holds (envOf 6 ds) (fin Q E) := by
  rintro ds Q E ⟨row, p, v, rfl, h0, h1, hs, q1, q2⟩
  simp [t_verdict_holds, -lcGo, -S_clashes, -S_misplaced, -S_history_holds]
  refine ⟨row, p, rfl, h0, h1, fun ms e hp => ?_, q2⟩
  subst e
  have q := q1 ms rfl hp
  have no : ∀ (P : Prop), ordB row.length (tN ms) = false → P := fun P hb => by rw [ordB_tN hp] at hb; cases hb
  refine ⟨row, tN ms, rfl, h0, h1, fun ms' e _ => ?_, no _⟩
  obtain rfl := tN_inj.mp e
  cases v
  case tuple xs =>
    obtain ⟨hx1, hx2⟩ := hs xs rfl
    match xs, hx1, hx2, q with
    | [], hx1, hx2, q => simpa [rightB] using q
    | [x], hx1, hx2, q => simpa [rightB] using q
    | y :: x :: rest, hx1, hx2, q =>
      cases y
      case str z =>
        have len2 : ¬ ((rest.length : Int) + 1 + 1 < 2) := by omega
        have qq : Q (.py (.bool ((vitB row.length x && rest.all (vitB row.length)) && (if z = Str.ofString "history" then rest.isEmpty && hisB row ms x else if z = Str.ofString "place" then rest.isEmpty && inW row ms x else decide (z = Str.ofString "clash") && inC row ms (x :: rest))))) := q
        clear q
        simp [-lcGo, -S_history_holds, len2]
        have el : (D.py (PyData.str z) :: D.py x :: List.map D.py rest) = ((PyData.str z :: x :: rest).map id).map D.py := by simp
        rw [el]
        refine lc_encM id (fun y => PyData.bool (vitB row.length y)) (fun i y hy kk k1 => ?_) (by simpa using by simp at hx1; omega) ?_
        · cases y <;> simp [lcStep, vitB, isIntJ] at k1 ⊢ <;> exact k1
        · have eb : (PyData.str z :: x :: rest).map (fun y => PyData.bool (vitB row.length y)) = ((PyData.str z :: x :: rest).map (vitB row.length)).map PyData.bool := by rw [List.map_map]; rfl
          rw [eb]
          simp [-S_history_holds]
          refine ⟨(PyData.str z :: x :: rest).map (vitB row.length), by have h := allB_mk ((PyData.str z :: x :: rest).map (vitB row.length)); rw [List.map_map] at h; exact h, ?_⟩
          have ea : ((PyData.str z :: x :: rest).map (vitB row.length)).all (fun k => k) = (vitB row.length x && rest.all (vitB row.length)) := by
            rw [List.map_cons, List.all_cons, List.map_cons, List.all_cons, List.all_map]
            rfl
          have hm : (false ∈ (PyData.str z :: x :: rest).map (vitB row.length)) ↔ (vitB row.length x && rest.all (vitB row.length)) = false := by
            rw [← ea, List.all_eq_false]
            constructor
            · intro h; exact ⟨false, h, by simp⟩
            · rintro ⟨b, h1, h2⟩
              have : b = false := by simpa using h2
              rwa [this] at h1
          cases hv : (vitB row.length x && rest.all (vitB row.length)) with
          | false =>
            rw [if_pos (hm.mpr hv)]
            rw [hv] at qq
            simpa using qq
          | true =>
            rw [if_neg fun h => by rw [hm.mp h] at hv; cases hv]
            rw [hv] at qq
            rw [Bool.and_eq_true] at hv
            have hxp : x.plain = true ∧ x.depth = 0 := by cases x <;> simp [vitB] at hv <;> exact ⟨rfl, rfl⟩
            have hrp : PyData.plainAll rest = true := by
              have := hv.2
              clear hx1 hx2 qq el eb ea hm hs len2 q1
              induction rest with
              | nil => rfl
              | cons r rest ih =>
                rw [List.all_cons, Bool.and_eq_true] at this
                rw [PyData.plainAll, ih ⟨hv.1, this.2⟩ this.2]
                have h := this.1
                cases r <;> simp [vitB] at h <;> rfl
            by_cases z1 : z = Str.ofString "history"
            · subst z1
              simp [-S_history_holds]
              by_cases hr : rest = []
              · subst hr
                simp [-S_history_holds] at qq ⊢
                refine ⟨row, tN ms, x, rfl, h0, h1, fun z' e => ?_, fun ms' e _ => ?_, ms, rfl, hp⟩
                · subst e; exact hx2 z' (by simp)
                · obtain rfl := tN_inj.mp e
                  exact qq
              · have hl : ¬ ((rest.length : Int) + 1 + 1 = 2) := by have := List.length_pos_iff.mpr hr; omega
                have he : rest.isEmpty = false := by simpa using hr
                simp [he] at qq
                simp [hl]
                exact qq
            · by_cases z2 : z = Str.ofString "place"
              · subst z2
                have n1 : ¬ Str.ofString "place" = Str.ofString "history" := by decide +kernel
                by_cases hr : rest = []
                · subst hr
                  simp [n1, inW] at qq
                  simp [n1, hxp.1, hxp.2, pn_plain, pn_depth]
                  exact qq
                · have hl : ¬ ((rest.length : Int) + 1 + 1 = 2) := by have := List.length_pos_iff.mpr hr; omega
                  have he : rest.isEmpty = false := by simpa using hr
                  simp [n1, he] at qq
                  simp [n1, hl]
                  exact qq
              · simp [z1, z2] at qq
                simp [z1, z2]
                by_cases z3 : z = Str.ofString "clash"
                · subst z3
                  have ec : cutL (PyData.str (Str.ofString "clash") :: x :: rest) (some 1) none = x :: rest := by rw [cutL_drop _ (by omega)]; rfl
                  simp [ec, PyData.plainAll, hxp.1, hrp, plain_pairP]
                  simp [inC] at qq
                  exact ⟨.inr (by have := depth_pairP (clashL row ms); omega), qq⟩
                · simp [z3] at qq ⊢
                  exact qq
      all_goals (simp [rightB] at q ⊢; exact q)
  all_goals (simp [rightB] at q ⊢; exact q)
end LawP
set_option Elab.async false
set_option linter.all false
set_option maxRecDepth 100000
set_option maxHeartbeats 4000000
namespace LawP
open PySem PySem.Spec PyProof.Rows L2 VL
def t_bounds_of (S_is_possible : SV) (S_stairs : SV) : VS :=
  (sSeq (sIf (wNot (vTst (vCall S_is_possible (vCons (vVar 0) (vCons (vVar 1) vNil)))))
  (sRaise0 "Impossible")
  sNext)
  (sRet (vCall S_stairs (vCons (vVar 0) (vCons (vVar 1) vNil)))))
end LawP
set_option Elab.async false
set_option linter.all false
set_option maxRecDepth 100000
set_option maxHeartbeats 4000000
namespace LawP
open PySem PySem.Spec PyProof.Rows L2 VL
end LawP
set_option Elab.async false
set_option linter.all false
set_option maxRecDepth 100000
set_option maxHeartbeats 4000000
namespace LawP
open PySem PySem.Spec PyProof.Rows L2 VL
end LawP
set_option Elab.async false
set_option linter.all false
set_option maxRecDepth 100000
set_option maxHeartbeats 4000000
namespace LawP
open PySem PySem.Spec PyProof.Rows L2 VL
@[simp] theorem lit_a : Str.ofString "a" = mkS [97] := by decide +kernel
@[simp] theorem lit_s : Str.ofString "s" = mkS [115] := by decide +kernel
@[simp] theorem lit_e : Str.ofString "" = mkS [] := by decide +kernel
@[simp] theorem lit_as : Str.ofString "as" = mkS [97, 115] := by decide +kernel
def isSm (p : PyData) : Prop := ∀ z, p = .str z → z.length ≤ 100000
/-! ### word_error -/
@[simp] def S_word_error : SV
  | [.py (.tuple xs), .py p], Q, _ => isSm p ∧ Q (.py (wErr xs.length p))
  | _, _, _ => False
/-! ### is_history -/
def isHist (n : Nat) (p : PyData) : Bool := match p with
  | .str z => isNn (wErr n (.str z)) && decide (z.length = 2 * n)
  | _ => false
@[simp] def S_is_history : SV
  | [.py (.tuple xs), .py p], Q, _ => isSm p ∧ xs.length ≤ 100000 ∧ Q (.py (.bool (isHist xs.length p)))
  | _, _, _ => False
/-! ### what is drawn -/
def odds : List PyData := [.none, .bool true, .bool false, .int (-1), .int 0, .int 1, .int 40, .int 1000000001, .int 1000000000000000000000000000000000000000, .str "", .str "a", .str "as", .str "0", .tuple [], .list [], .dict [], .tuple [.int 0], .list [.int 0], .tuple [.bool true], .tuple [.str "a", .str "s"], .tuple [.int 0, .int 0], .str "none", .dict [(.str "a", .int 0)], .tuple [.int 1, .int 0]]
@[simp] def S_law_odd (r : Addr) : SV
  | [.raw v], Q, _ => v = .ref r ∧ ∀ p ∈ odds, Q (.py p)
  | _, _, _ => False
@[simp] def S_law_word (r : Addr) : SV
  | [.raw v, .py (.int m), .py (.int way)], Q, _ => v = .ref r ∧ 0 ≤ m ∧ m ≤ 1000 ∧ 0 ≤ way ∧ way < 5 ∧ ∀ w : List Nat, HistW m.toNat w → Q (.py (.str (mkS w)))
  | _, _, _ => False
/-! ### the law's own look at a word -/
@[simp] def S_law_fault : SV
  | [.py (.tuple xs), .py p], Q, _ => isSm p ∧ Q (.py (wErr xs.length p))
  | _, _, _ => False
/-! ### a word changed -/
@[simp] def S_law_twisted (r : Addr) : SV
  | [.raw v, .py (.str z)], Q, _ => v = .ref r ∧ z.length ≤ 50000 ∧ ∀ z' : Str, z'.length ≤ z.length + 10 → (∀ c ∈ sl z', c ∈ sl z ∨ c < 128) → Q (.py (.str z'))
  | _, _, _ => False
end LawP
set_option Elab.async false
set_option linter.all false
set_option maxRecDepth 100000
set_option maxHeartbeats 4000000
namespace LawP
open PySem PySem.Spec PyProof.Rows L2 VL
/-! ### sizes of words and what is told of them -/
end LawP
set_option Elab.async false
set_option linter.all false
set_option maxRecDepth 100000
set_option maxHeartbeats 4000000
namespace LawP
open PySem PySem.Spec PyProof.Rows L2 VL
/-! ### queue_with -/
@[simp] def S_queue_with : SV := fun ds Q _ => ∃ (ws : List Nat) (p : Nat) (m : Option Nat), ds = [.py (tN ws), .py (pN p), .py (oN m)] ∧ ws.length ≤ 100000 ∧ Q (.py (tN (joinQ ws p m)))
/-! ### steps_of -/
def stepP (p : Nat × Nat × List Nat) : PyData := .tuple [.str (mkS [p.1]), pN p.2.1, tN p.2.2]
@[simp] def S_steps_of : SV := fun ds Q _ => ∃ (row : List Int) (w : List Nat), ds = [.py (tI row), .py (.str (mkS w))] ∧ row.length ≤ 1000 ∧ w.length ≤ 100000 ∧ okP row.length 0 0 w ∧ Q (.py (.list ((stepsL row 0 [] w).map stepP)))
/-! ### check_word, run -/
@[simp] def S_check_word : SV
  | [.py (.tuple xs), .py p], Q, E => isSm p ∧ (wErr xs.length p = .none → Q (.py .none)) ∧ (wErr xs.length p ≠ .none → E ⟨"BadWord", [("error", wErr xs.length p)]⟩)
  | _, _, _ => False
def runP (row : List Int) (w : List Nat) : PyData := .tuple [tN (servedL (stepsL row 0 [] w)), tN (waitL (stepsL row 0 [] w))]
@[simp] def S_run : SV := fun ds Q E => ∃ (row : List Int) (p : PyData), ds = [.py (tI row), .py p] ∧ row.length ≤ 1000 ∧ isSm p ∧ (∀ w, p = .str (mkS w) → okP row.length 0 0 w → Q (.py (runP row w))) ∧ (wErr row.length p ≠ .none → E ⟨"BadWord", [("error", wErr row.length p)]⟩)
/-! ### the law's own queue -/
@[simp] def S_law_played : SV := fun ds Q _ => ∃ (row : List Int) (w : List Nat), ds = [.py (tI row), .py (.str (mkS w))] ∧ row.length ≤ 1000 ∧ w.length ≤ 100000 ∧ okP row.length 0 0 w ∧
  Q (.py (.list [tN (servedL (stepsL row 0 [] w)), tN (waitL (stepsL row 0 [] w)), .list ((stepsL row 0 [] w).map stepP)]))
/-! ### sizes -/
end LawP
set_option Elab.async false
set_option linter.all false
set_option maxRecDepth 100000
set_option maxHeartbeats 4000000
namespace LawP
open PySem PySem.Spec PyProof.Rows L2 VL
@[simp] def S_h_groups (r : Addr) : SV
  | [.raw v, .py (.int m)], Q, _ => v = .ref r ∧ 1 ≤ m ∧ m ≤ 40 ∧ ∀ gs : List Int, gs ≠ [] → gs.length ≤ m → (∀ g ∈ gs, 0 ≤ g ∧ g ≤ 1000000000) → Q (.py (tI gs))
  | _, _, _ => False
@[simp] def S_h_letters (r : Addr) : SV := fun ds Q _ => ∃ n : Nat, ds = [.raw (.ref r), .py (.int (n : Nat))] ∧ n ≤ 40 ∧ ∀ w : List Nat, HistW n w → Q (.py (.str (mkS w)))
@[simp] def S_h_served : SV := fun ds Q _ => ∃ (row : List Int) (w : List Nat), ds = [.py (tI row), .py (.str (mkS w))] ∧ row.length ≤ 1000 ∧ w.length ≤ 100000 ∧ HistW row.length w ∧ Q (.py (tN (ordL row w)))
@[simp] def S_h_counts : SV := fun ds Q _ => ∃ (n : Nat) (w : List Nat), ds = [.py (.str (mkS w))] ∧ n ≤ 1000 ∧ HistW n w ∧ Q (.py (.list ((cntsL 0 w).map pN)))
/-! ### all words, in the order of texts -/
def ltW (a b : List Nat) : Prop := ltCps a b = true
theorem sl_mkS (w : List Nat) : (mkS w).cps.toList = w := by simp [mkS]
@[simp] def S_h_words : SV := fun ds Q _ => ∃ n : Nat, ds = [.py (.int (n : Nat))] ∧ n ≤ 10 ∧ ∀ L : List (List Nat), (∀ w, w ∈ L ↔ HistW n w) → L.Pairwise ltW → L.length ≤ 2 ^ (2 * n) → Q (.py (.list (L.map fun w => PyData.str (mkS w))))
@[simp] def S_h_having : SV := fun ds Q _ => ∃ (row : List Int) (ms : List Nat), ds = [.py (tI row), .py (tN ms)] ∧ row.length ≤ 7 ∧ ∀ L : List (List Nat), (∀ w, w ∈ L ↔ HistW row.length w ∧ ordL row w = ms) → L.Pairwise ltW → L.length ≤ 20000 → Q (.py (.list (L.map fun w => PyData.str (mkS w))))
end LawP
set_option Elab.async false
set_option linter.all false
set_option maxRecDepth 100000
set_option maxHeartbeats 4000000
namespace LawP
open PySem PySem.Spec PyProof.Rows L2 VL
end LawP
set_option Elab.async false
set_option linter.all false
set_option maxRecDepth 100000
set_option maxHeartbeats 4000000
namespace LawP
open PySem PySem.Spec PyProof.Rows L2 VL
theorem allI_pN (L : List Nat) : allI (L.map pN) = some (L.map fun (n : Nat) => (n : Int)) := by
  have : L.map pN = (L.map fun (n : Nat) => (n : Int)).map PyData.int := by rw [List.map_map]; rfl
  rw [this, allI_map]
/-! ### least and greatest of lists -/
end LawP
set_option Elab.async false
set_option linter.all false
set_option maxRecDepth 100000
set_option maxHeartbeats 4000000
namespace LawP
open PySem PySem.Spec PyProof.Rows L2 VL
/-! ### the law's own stairs -/
def ownP (row : List Int) (ms : List Nat) (k : Nat) : PyData := if nearB row ms k = true ∨ leadB ms k = true then .list [pN (lowD row ms k), pN (highD row ms k)] else .none
@[simp] def S_h_own_bounds : SV := fun ds Q _ => ∃ (row : List Int) (ms : List Nat) (k : Nat), ds = [.py (tI row), .py (tN ms), .py (.int (k : Nat))] ∧ ms.Perm (List.range row.length) ∧ k < row.length ∧ row.length ≤ 40 ∧ Q (.py (ownP row ms k))
def stairsP (row : List Int) (ms : List Nat) : PyData := if possB row ms then .list [.list ((csLo row ms).map pN), .list ((csHi row ms).map pN)] else .none
@[simp] def S_h_stairs : SV := fun ds Q _ => ∃ (row : List Int) (ms : List Nat), ds = [.py (tI row), .py (tN ms)] ∧ row ≠ [] ∧ ms.Perm (List.range row.length) ∧ row.length ≤ 40 ∧ Q (.py (stairsP row ms))
/-! ### the same -/
def leafP : PyData → Bool
  | .list _ => false
  | .tuple _ => false
  | .dict _ => false
  | _ => true
def flatN : Nat → PyData → Prop
  | 0, p => leafP p = true
  | n + 1, p => leafP p = true ∨ ∃ xs, (p = .list xs ∨ p = .tuple xs) ∧ xs.length ≤ 1000000 ∧ ∀ x ∈ xs, flatN n x
@[simp] def S_h_same : Nat → SV
  | 0 => fun _ _ _ => False
  | n + 1 => fun ds Q _ => ∃ p, ds = [.py p, .py p] ∧ flatN n p ∧ Q (.py (.bool true))
theorem ord_ne {n : Nat} {p : PyData} {ms : List Nat} (e : p = tN ms) (hp : ms.Perm (List.range n)) (h : ordB n p = false) : False := by
  subst e
  rw [ordB_iff.mpr ⟨ms, rfl, hp⟩] at h
  cases h
@[simp] def S_bounds_of : SV := fun ds Q E => ∃ (row : List Int) (p : PyData), ds = [.py (tI row), .py p] ∧ row ≠ [] ∧ row.length ≤ 40 ∧ (∀ ms, p = tN ms → ms.Perm (List.range row.length) → (Poss row ms → Q (.py (.tuple [tN (csLo row ms), tN (csHi row ms)]))) ∧ (¬ Poss row ms → E ⟨"Impossible", []⟩)) ∧ (ordB row.length p = false → E ⟨"NoOrder", []⟩)
theorem l_bounds_of : ∀ ds Q E, S_bounds_of ds Q E → t_bounds_of S_is_possible S_stairs (envOf 2 ds) (fin Q E) := by
  rintro ds Q E ⟨row, p, rfl, h0, hl, q1, q2⟩
  simp [t_bounds_of, -S_is_possible, -S_stairs]
  refine ⟨row, p, rfl, h0, hl, fun ms e hp => ?_, q2⟩
  subst e
  obtain ⟨q3, q4⟩ := q1 ms rfl hp
  cases c : possB row ms with
  | true =>
    simp [-S_stairs]
    refine ⟨row, tN ms, rfl, h0, hl, fun ms' e _ => ?_, fun h => (ord_ne rfl hp h).elim⟩
    obtain rfl := tN_inj.mp e
    exact q3 (possB_iff.mp c)
  | false =>
    simp
    exact q4 fun h => by rw [possB_iff.mpr h] at c; cases c
def fixP (row : List Int) (ms : List Nat) (k : Nat) : PyData := if loS row ms k = hiS row ms k then pN (loS row ms k) else .none
@[simp] def S_fixed_counts : SV := fun ds Q E => ∃ (row : List Int) (p : PyData), ds = [.py (tI row), .py p] ∧ row ≠ [] ∧ row.length ≤ 40 ∧ (∀ ms, p = tN ms → ms.Perm (List.range row.length) → (Poss row ms → Q (.py (.tuple ((List.range row.length).map (fixP row ms))))) ∧ (¬ Poss row ms → E ⟨"Impossible", []⟩)) ∧ (ordB row.length p = false → E ⟨"NoOrder", []⟩)
end LawP
set_option Elab.async false
set_option linter.all false
set_option maxRecDepth 100000
set_option maxHeartbeats 4000000
namespace LawP
open PySem PySem.Spec PyProof.Rows L2 VL
def t_order_of_joiners (S_mates : SV) (S_places_in : SV) : VS :=
  (sSeq (sSetN 2 (vLst vNil))
  (sSeq (sFor (iEn (vCons (vCall S_mates (vCons (vVar 0) vNil)) vNil)) (tgTup 2 (tgCons (tgName 3) (tgCons (tgName 4) tgNil)))
  (sMut 2 gIns (vCons (vIf (vTst (vBin (gIn false) (vBor 3) (vBor 1))) (vBin gAdd (vMth isSq gIndex (vBor 2) (vCons (vBor 4) vNil)) (vC (.py (.int 1)))) (vCal gLen (vCons (vBor 2) vNil))) (vCons (vVar 3) vNil))))
  (sSeq (sFrz 2 (sPar [5, 6, 7] (mCons false (vCall S_places_in (vCons (vVar 2) vNil)) (mCons true (vLst vNil) (mCons true (vLst vNil) mNil)))))
  (sSeq (sFor (iEn (vCons (vCall S_mates (vCons (vVar 0) vNil)) vNil)) (tgTup 2 (tgCons (tgName 3) (tgCons (tgName 4) tgNil)))
  (sSeq (sMut 6 gApp (vCons (vIf (wAnd (vTst (vBin (gIsN true) (vBor 4) (vC (.py .none)))) (vTst (vBin (gIn true) (vBor 3) (vBor 1)))) (vBin gAdd (vBin gIx (vBor 5) (vBor 4)) (vC (.py (.int 1)))) (vC (.py (.int 0)))) vNil))
  (sMut 7 gApp (vCons (vIf (vTst (vBin (gIn false) (vBor 3) (vBor 1))) (vBin gIx (vBor 5) (vBor 4)) (vBin gIx (vBor 5) (vBor 3))) vNil))))
  (sSeq (sSet 8 (vC (.py (.int 0))))
  (sSeq (sFor (iR1 (vCons (vCal gLen (vCons (vBor 0) vNil)) vNil)) (tgName 3)
  (sSeq (sSet 8 (vCal gMax (vCons (vBor 8) (vCons (vBin gIx (vBor 6) (vBor 3)) vNil))))
  (sIf (vTst (vBin gGt (vBor 8) (vCal gMin (vCons (vSl gSl (vBor 7) (oAt (vBor 3)) oNo) vNil))))
  (sRet (vC (.py .none)))
  sNext)))
  (sRet (vCal gTuple (vCons (vBor 2) vNil)))))))))
end LawP
set_option Elab.async false
set_option linter.all false
set_option maxRecDepth 100000
set_option maxHeartbeats 4000000
namespace LawP
open PySem PySem.Spec PyProof.Rows L2 VL
/-! M30: joiners and the order that they make -/
def jnB (row : List Int) (c : Nat → Nat) (k : Nat) : Bool := match mateOf row k with
  | some m => decide (c k ≤ (tq row c k).idxOf m)
  | none => false
/-- the line of all persons, from who joins -/
theorem tq_join (row : List Int) (c : Nat → Nat) (a : Nat) : tq row c (a + 1) = insAt (tq row c a) (match mateOf row a with | some m => if jnB row c a = true then (tq row c a).idxOf m + 1 else a | none => a) a := by
  rw [tq_succ]
  unfold tpl jnB
  cases mateOf row a with
  | none => simp only; rw [tq_len]
  | some m => simp only [decide_eq_true_eq]; rw [tq_len]
theorem joins_tq {row : List Int} {n : Nat} {c : Nat → Nat} : ∀ {w : List Nat} {a s : Nat} {sv ws : List Nat}, goodW n a s w → sv.length = s → sv ++ ws = tq row c a → a ≤ n → (∀ i x, (cntsL s w)[i]? = some x → c (a + i) = x) →
    joinsL row a ws w = (List.range' a (n - a)).filter (jnB row c)
  | [], a, s, sv, ws, ⟨h1, h2⟩, e1, e2, h3, hc => by
    subst h1
    simp [joinsL]
  | d :: w, a, s, sv, ws, h, e1, e2, h3, hc => by
    have hl := congrArg List.length e2
    rw [List.length_append, tq_len] at hl
    rcases h with ⟨rfl, ha, h⟩ | ⟨rfl, ha, h⟩
    · rw [joinsL_a]
      rw [cntsL_a] at hc
      have hca : c a = s := hc 0 s rfl
      have hnd : (sv ++ ws).Nodup := by rw [e2]; exact perm_nodup (tq_perm row c a)
      have jb : joinB row ws a = jnB row c a := by
        unfold joinB jnB
        cases hm : mateOf row a with
        | none => rfl
        | some m =>
          have hma := (mateOf_lt hm).1
          have hmT : m ∈ sv ++ ws := by rw [e2]; exact tq_mem.mpr hma
          show decide (m ∈ ws) = decide (c a ≤ (tq row c a).idxOf m)
          rw [← e2, hca]
          by_cases c1 : m ∈ ws
          · have c2 : m ∉ sv := fun c2 => (List.nodup_append.mp hnd).2.2 m c2 m c1 rfl
            rw [idx_right c2]
            simp [c1]; omega
          · have c2 : m ∈ sv := (List.mem_append.mp hmT).resolve_right c1
            have := idx_lt_of (l2 := ws) c2
            simp [c1]; omega
      have key : ∀ i, insAt (sv ++ ws) (sv.length + i) a = sv ++ insAt ws i a := fun i => by
        unfold insAt
        rw [List.take_append, List.drop_append, List.take_of_length_le (by omega), List.drop_of_length_le (by omega)]
        simp
      have e3 : sv ++ joinQ ws a (mateOf row a) = tq row c (a + 1) := by
        rw [tq_succ, ← e2, hca]
        unfold joinQ joinPl tpl
        cases hm : mateOf row a with
        | none => simp only; rw [← key, List.length_append]
        | some m =>
          simp only
          have hma := (mateOf_lt hm).1
          have hmT : m ∈ sv ++ ws := by rw [e2]; exact tq_mem.mpr hma
          by_cases c1 : m ∈ ws
          · have c2 : m ∉ sv := fun c2 => (List.nodup_append.mp hnd).2.2 m c2 m c1 rfl
            rw [idx_right c2, if_pos c1, if_pos (by omega), ← key, Nat.add_assoc]
          · have c2 : m ∈ sv := (List.mem_append.mp hmT).resolve_right c1
            have := idx_lt_of (l2 := ws) c2
            rw [if_neg c1, if_neg (by omega), ← key, List.length_append]
      rw [joins_tq h e1 e3 ha fun i x hx => by
        rw [show a + 1 + i = a + (i + 1) by omega]
        exact hc (i + 1) x (by simpa using hx), jb, show n - a = (n - (a + 1)) + 1 by omega, List.range'_succ, List.filter_cons]
      split <;> simp
    · cases ws with
      | nil => simp at hl; omega
      | cons x ws =>
        rw [joinsL_s]
        rw [cntsL_s] at hc
        exact joins_tq (row := row) (c := c) (sv := sv ++ [x]) (ws := ws) h (by simp [e1]) (by rw [List.append_assoc]; exact e2) h3 hc
theorem joins_of {row : List Int} {w : List Nat} (h : HistW row.length w) : joinsL row 0 [] w = (List.range row.length).filter (jnB row (fnOf (cntsL 0 w))) := by
  have := joins_tq (row := row) (c := fnOf (cntsL 0 w)) (sv := []) (ws := []) h rfl rfl (Nat.zero_le _) (fun i x hx => by unfold fnOf; rw [Nat.zero_add, List.getD_eq_getElem?_getD, hx]; rfl)
  rw [this, Nat.sub_zero, ← List.range_eq_range']
theorem tpl_ge {row : List Int} {c : Nat → Nat} {a : Nat} (hc : c a ≤ a) : c a ≤ tpl row (c a) (tq row c a) a := by
  unfold tpl
  rw [tq_len]
  cases mateOf row a with
  | none => exact hc
  | some m =>
    show c a ≤ if _ then _ else _
    split
    · rename_i h; exact Nat.le_succ_of_le h
    · exact hc
theorem ins_left {l : List Nat} {p x y : Nat} (h : l.idxOf x < p) (hp : p ≤ l.length) : (insAt l p y).idxOf x = l.idxOf x := by
  unfold insAt
  have e : (l.take p ++ l.drop p).idxOf x = l.idxOf x := by rw [List.take_append_drop]
  have hm : x ∈ l.take p := mem_of_idx_lt (l2 := l.drop p) (by rw [e, List.length_take, Nat.min_eq_left hp]; exact h)
  rw [idx_left hm, ← idx_left (l2 := l.drop p) hm, List.take_append_drop]
theorem tpl_le (row : List Int) (c : Nat → Nat) (a : Nat) : tpl row (c a) (tq row c a) a ≤ (tq row c a).length := by
  unfold tpl
  cases hm : mateOf row a with
  | none => exact Nat.le_refl _
  | some m =>
    show (if _ then _ else _) ≤ _
    split
    · exact List.idxOf_lt_length_of_mem (tq_mem.mpr (mateOf_lt hm).1)
    · exact Nat.le_refl _
/-- who was served before stays in his place -/
theorem tq_stay {row : List Int} {c : Nat → Nat} {n : Nat} (hu : ∀ i j, i ≤ j → j < n → c i ≤ c j) (hc : ∀ i, i < n → c i ≤ i) {a x : Nat} (h : (tq row c a).idxOf x < c a) : ∀ d, a + d ≤ n → (tq row c (a + d)).idxOf x = (tq row c a).idxOf x
  | 0, _ => rfl
  | d + 1, hd => by
    have ih := tq_stay hu hc h d (by omega)
    have h1 := hu a (a + d) (by omega) (by omega)
    have h2 := tpl_ge (row := row) (c := c) (hc (a + d) (by omega))
    rw [← Nat.add_assoc, tq_succ, ins_left (by rw [ih]; omega) (tpl_le _ _ _), ih]
theorem ins_right {l : List Nat} {p x y : Nat} (hx : x ∈ l) (hxy : x ≠ y) : l.idxOf x ≤ (insAt l p y).idxOf x := by
  unfold insAt
  have e : (l.take p ++ l.drop p).idxOf x = l.idxOf x := by rw [List.take_append_drop]
  by_cases hm : x ∈ l.take p
  · rw [idx_left hm, ← e, idx_left hm]
    exact Nat.le_refl _
  · rw [idx_right hm, ← e, idx_right hm, List.idxOf_cons]
    have : (y == x) = false := by simpa using fun h : y = x => hxy h.symm
    rw [this]
    simp
/-- who was not served before is never served before -/
theorem tq_move {row : List Int} {c : Nat → Nat} {a x k : Nat} (hx : x < a) (h : k ≤ (tq row c a).idxOf x) : ∀ d, k ≤ (tq row c (a + d)).idxOf x
  | 0 => h
  | d + 1 => by
    rw [← Nat.add_assoc, tq_succ]
    exact Nat.le_trans (tq_move hx h d) (ins_right (tq_mem.mpr (by omega)) (by omega))
/-- places of a history's order against its counts -/
theorem place_own {row : List Int} {w : List Nat} (hw : HistW row.length w) {k : Nat} (hk : k < row.length) : fnOf (cntsL 0 w) k ≤ (ordL row w).idxOf k := by
  rw [ordL_tq hw]
  have h1 := tpl_ge (row := row) (c := fnOf (cntsL 0 w)) (hw.cnt.le k hk)
  have h2 := tpl_le row (fnOf (cntsL 0 w)) k
  have nk : k ∉ tq row (fnOf (cntsL 0 w)) k := fun h => by have := tq_mem.mp h; omega
  have e : (tq row (fnOf (cntsL 0 w)) (k + 1)).idxOf k = tpl row (fnOf (cntsL 0 w) k) (tq row (fnOf (cntsL 0 w)) k) k := by
    rw [tq_succ]
    unfold insAt
    rw [idx_split fun h => nk (List.mem_of_mem_take h), List.length_take, Nat.min_eq_left h2]
  have := tq_move (row := row) (c := fnOf (cntsL 0 w)) (a := k + 1) (x := k) (k := fnOf (cntsL 0 w) k) (by omega) (by rw [e]; exact h1) (row.length - (k + 1))
  rwa [show k + 1 + (row.length - (k + 1)) = row.length by omega] at this
theorem place_mate {row : List Int} {w : List Nat} (hw : HistW row.length w) {k m : Nat} (hk : k < row.length) (hm : mateOf row k = some m) : if jnB row (fnOf (cntsL 0 w)) k = true then fnOf (cntsL 0 w) k ≤ (ordL row w).idxOf m else (ordL row w).idxOf m < fnOf (cntsL 0 w) k := by
  rw [ordL_tq hw]
  have hmk := (mateOf_lt hm).1
  unfold jnB
  rw [hm]
  simp only [decide_eq_true_eq]
  by_cases h : fnOf (cntsL 0 w) k ≤ (tq row (fnOf (cntsL 0 w)) k).idxOf m
  · rw [if_pos h]
    have := tq_move (row := row) (c := fnOf (cntsL 0 w)) hmk h (row.length - k)
    rwa [show k + (row.length - k) = row.length by omega] at this
  · rw [if_neg h]
    have := tq_stay (row := row) (c := fnOf (cntsL 0 w)) (n := row.length) hw.cnt.up hw.cnt.le (a := k) (x := m) (by omega) (row.length - k) (by omega)
    rw [show k + (row.length - k) = row.length by omega] at this
    rw [this]
    omega
end LawP
set_option Elab.async false
set_option linter.all false
set_option maxRecDepth 100000
set_option maxHeartbeats 4000000
namespace LawP
open PySem PySem.Spec PyProof.Rows L2 VL
end LawP
set_option Elab.async false
set_option linter.all false
set_option maxRecDepth 100000
set_option maxHeartbeats 4000000
namespace LawP
open PySem PySem.Spec PyProof.Rows L2 VL
/-! ### whole numbers within bounds -/
def isInt (p : PyData) (lo hi : Int) : Bool := match p with
  | .int i => decide (lo ≤ i) && decide (i ≤ hi)
  | _ => false
@[simp] def S_is_integer : SV
  | [.py p, .py (.int lo), .py (.int hi)], Q, _ => Q (.py (.bool (isInt p lo hi)))
  | _, _, _ => False
/-! ### counts and their words -/
/-- the first wrong place, b the count before -/
def badC : Int → Nat → List PyData → Option Nat
  | _, _, [] => none
  | b, k, .int c :: ps => if b ≤ c ∧ c ≤ k then badC c (k + 1) ps else some k
  | _, k, _ :: _ => some k
def wordP : Int → Nat → List PyData → List Nat
  | b, k, [] => List.replicate ((k : Int) - b).toNat 115
  | b, k, .int c :: ps => List.replicate (c - b).toNat 115 ++ 97 :: wordP c (k + 1) ps
  | _, _, _ :: _ => []
@[simp] def S_word_with : SV
  | [.py (.tuple ps)], Q, _ => ps.length ≤ 40 ∧ badC 0 0 ps = none ∧ Q (.py (.str (mkS (wordP 0 0 ps))))
  | [.py (.list ps)], Q, _ => ps.length ≤ 40 ∧ badC 0 0 ps = none ∧ Q (.py (.str (mkS (wordP 0 0 ps))))
  | _, _, _ => False
@[simp] def wfQ (ps : List PyData) (Q : D → Prop) (E : Er → Prop) : Prop := if 1 ≤ ps.length ∧ ps.length ≤ 40 then (match badC 0 0 ps with | none => Q (.py (.str (mkS (wordP 0 0 ps)))) | some k => E ⟨"BadCount", [("index", .int (k : Nat))]⟩) else E ⟨"TooLarge", [("limit", .int 40)]⟩
@[simp] def S_word_from : SV
  | [.py (.tuple ps)], Q, E => wfQ ps Q E
  | _, _, _ => False
end LawP
set_option Elab.async false
set_option linter.all false
set_option maxRecDepth 100000
set_option maxHeartbeats 4000000
namespace VL
open PySem PySem.Spec PyProof.Rows L2 HT
@[simp] theorem atI_four {α : Type} (x y z u v : α) (xs : List α) : atI (x :: y :: z :: u :: v :: xs) 4 = some v := by have := @atI_nat _ (x :: y :: z :: u :: v :: xs) 4 _ rfl; exact this
@[simp] theorem atI_five {α : Type} (x y z u v w : α) (xs : List α) : atI (x :: y :: z :: u :: v :: w :: xs) 5 = some w := by have := @atI_nat _ (x :: y :: z :: u :: v :: w :: xs) 5 _ rfl; exact this
end VL
namespace LawP
open PySem PySem.Spec PyProof.Rows L2 VL
/-! M31: the order that some joiners make -/
/-- where a person comes in -/
def jPl (row : List Int) (J : Nat → Bool) (T : List Nat) (a : Nat) : Nat := if J a = true then (match mateOf row a with | some m => T.idxOf m + 1 | none => a) else a
def jO (row : List Int) (J : Nat → Bool) : Nat → List Nat
  | 0 => []
  | a + 1 => insAt (jO row J a) (jPl row J (jO row J a) a) a
theorem jO_succ (row : List Int) (J : Nat → Bool) (a : Nat) : jO row J (a + 1) = insAt (jO row J a) (jPl row J (jO row J a) a) a := rfl
theorem jO_perm (row : List Int) (J : Nat → Bool) (a : Nat) : (jO row J a).Perm (List.range a) := by
  induction a with
  | zero => exact .refl _
  | succ a ih =>
    rw [jO_succ, List.range_succ]
    exact (insAt_perm _ _ _).trans ((ih.cons a).trans (List.perm_append_comm (l₁ := [a])))
theorem jO_len (row : List Int) (J : Nat → Bool) (a : Nat) : (jO row J a).length = a := perm_len (jO_perm row J a)
theorem jO_mem {row : List Int} {J : Nat → Bool} {a k : Nat} : k ∈ jO row J a ↔ k < a := perm_mem (jO_perm row J a)
theorem jO_tq {row : List Int} {J : Nat → Bool} {c : Nat → Nat} {n : Nat} (h : ∀ k, k < n → J k = jnB row c k) : ∀ a, a ≤ n → jO row J a = tq row c a
  | 0, _ => rfl
  | a + 1, ha => by
    rw [jO_succ, tq_join, jO_tq h a (by omega)]
    congr 1
    unfold jPl
    rw [h a (by omega)]
    unfold jnB
    cases hm : mateOf row a with
    | none => simp
    | some m => simp only
def jLow (row : List Int) (J : Nat → Bool) (k : Nat) : Nat := match mateOf row k with
  | some m => if J k = true then 0 else (jO row J row.length).idxOf m + 1
  | none => 0
def jHigh (row : List Int) (J : Nat → Bool) (k : Nat) : Nat := if J k = true then (match mateOf row k with | some m => (jO row J row.length).idxOf m | none => (jO row J row.length).idxOf k) else (jO row J row.length).idxOf k
def jStep (row : List Int) (J : Nat → Bool) (k : Nat) : Prop := maxTo (jLow row J) k ≤ minFrom (jHigh row J) k (row.length - 1 - k)
instance {row : List Int} {J : Nat → Bool} {k : Nat} : Decidable (jStep row J k) := inferInstanceAs (Decidable (_ ≤ _))
def jOk (row : List Int) (J : Nat → Bool) : Prop := ∀ k, k < row.length → jStep row J k
theorem jOk_iff {row : List Int} {J : Nat → Bool} : jOk row J ↔ ∀ i j, i ≤ j → j < row.length → jLow row J i ≤ jHigh row J j := by
  constructor
  · intro h i j hij hj
    have h1 := h i (by omega)
    unfold jStep at h1
    have h2 := maxTo_ge (jLow row J) (Nat.le_refl i)
    have h3 := minFrom_le (jHigh row J) i (d := row.length - 1 - i) (j := j - i) (by omega)
    rw [show i + (j - i) = j by omega] at h3
    omega
  · intro h k hk
    unfold jStep
    obtain ⟨i, h1, h2⟩ := maxTo_mem (jLow row J) k
    obtain ⟨j, h3, h4⟩ := minFrom_mem (jHigh row J) k (row.length - 1 - k)
    rw [h2, h4]
    exact h i (k + j) (by omega) (by omega)
instance {row : List Int} {J : Nat → Bool} : Decidable (jOk row J) := inferInstanceAs (Decidable (∀ k, k < row.length → jStep row J k))
/-- who joins in a word -/
def wJ (row : List Int) (w : List Nat) (k : Nat) : Bool := decide (k ∈ joinsL row 0 [] w)
theorem wJ_jn {row : List Int} {w : List Nat} (hw : HistW row.length w) {k : Nat} (hk : k < row.length) : wJ row w k = jnB row (fnOf (cntsL 0 w)) k := by
  unfold wJ
  rw [joins_of hw, Bool.eq_iff_iff, decide_eq_true_eq, List.mem_filter, List.mem_range]
  exact ⟨fun h => h.2, fun h => ⟨hk, h⟩⟩
theorem joins_lt {row : List Int} {w : List Nat} (hw : HistW row.length w) {k : Nat} (hk : k ∈ joinsL row 0 [] w) : k < row.length ∧ ∃ m, mateOf row k = some m := by
  rw [joins_of hw, List.mem_filter, List.mem_range] at hk
  refine ⟨hk.1, ?_⟩
  have h := hk.2
  unfold jnB at h
  cases hm : mateOf row k with
  | none => rw [hm] at h; cases h
  | some m => exact ⟨m, rfl⟩
theorem wJ_order {row : List Int} {w : List Nat} (hw : HistW row.length w) : jO row (wJ row w) row.length = ordL row w := by
  rw [ordL_tq hw]
  exact jO_tq (fun k hk => wJ_jn hw hk) _ (Nat.le_refl _)
theorem wJ_ok {row : List Int} {w : List Nat} (hw : HistW row.length w) : jOk row (wJ row w) := by
  refine jOk_iff.mpr fun i j hij hj => ?_
  have h0 := hw.cnt.up i j hij hj
  have h1 : jLow row (wJ row w) i ≤ fnOf (cntsL 0 w) i := by
    unfold jLow
    rw [wJ_order hw, wJ_jn hw (by omega)]
    cases hm : mateOf row i with
    | none => exact Nat.zero_le _
    | some m =>
      simp only
      have := place_mate hw (show i < row.length by omega) hm
      by_cases c : jnB row (fnOf (cntsL 0 w)) i = true
      · rw [if_pos c]; exact Nat.zero_le _
      · rw [if_neg c] at this ⊢; omega
  have h2 : fnOf (cntsL 0 w) j ≤ jHigh row (wJ row w) j := by
    unfold jHigh
    rw [wJ_order hw, wJ_jn hw hj]
    have ho := place_own hw hj
    by_cases c : jnB row (fnOf (cntsL 0 w)) j = true
    · rw [if_pos c]
      cases hm : mateOf row j with
      | none => exact ho
      | some m =>
        have := place_mate hw hj hm
        rw [if_pos c] at this
        exact this
    · rw [if_neg c]; exact ho
  omega
end LawP
set_option Elab.async false
set_option linter.all false
set_option maxRecDepth 100000
set_option maxHeartbeats 4000000
namespace LawP
open PySem PySem.Spec PyProof.Rows L2 VL
/-! ### orders made of joiners -/
def inL (js : List Nat) (k : Nat) : Bool := decide (k ∈ js)
theorem inL_iff {js : List Nat} {k : Nat} : inL js k = true ↔ k ∈ js := by unfold inL; exact decide_eq_true_iff
def mateB (row : List Int) (k : Nat) : Bool := (mateOf row k).isSome
@[simp] def S_order_of_joiners : SV := fun ds Q _ => ∃ (row : List Int) (js : List Nat), ds = [.py (tI row), .py (tN js)] ∧ row.length ≤ 40 ∧ js.length ≤ 1000 ∧ (∀ k ∈ js, mateB row k = true) ∧ Q (.py (if jOk row (inL js) then tN (jO row (inL js) row.length) else .none))
theorem ex_eqN (js : List Nat) (k : Nat) : (∃ x, x ∈ js ∧ (pN x).eqv (.int (k : Int)) = true) ↔ k ∈ js := by
  constructor
  · rintro ⟨x, hx, e⟩
    simp [pN] at e
    have : x = k := by omega
    subst this
    exact hx
  · exact fun h => ⟨k, h, by simp [pN]⟩
theorem nin_eqN (js : List Nat) (k : Nat) : (∀ x, x ∈ js → (pN x).eqv (.int (k : Int)) = false) ↔ k ∉ js := by
  rw [← ex_eqN]
  constructor
  · rintro h ⟨x, hx, e⟩
    rw [h x hx] at e; cases e
  · intro h x hx
    cases e : (pN x).eqv (.int (k : Int)) with
    | false => rfl
    | true => exact absurd ⟨x, hx, e⟩ h
theorem l_order_of_joiners : ∀ ds Q E, S_order_of_joiners ds Q E → t_order_of_joiners S_mates S_places_in (envOf 9 ds) (fin Q E) := by
  rintro ds Q E ⟨row, js, rfl, h1, h2, h3, q⟩
  have hpm := jO_perm row (inL js) row.length
  have hle := jO_len row (inL js) row.length
  simp [t_order_of_joiners, matesP, -forGo, -S_places_in]
  refine ⟨by omega, ?_⟩
  rw [matesL_map, enum_range]
  refine for_enc (fun k => PyData.tuple [.int (k : Nat), oN (mateOf row k)]) (fun i ρ => ∃ (x y : VL.Slot), ρ = [.shr (.py (tI row)), .shr (.py (tN js)), .own (.py (.list ((jO row (inL js) i).map pN))), x, y, .un, .un, .un, .un]) ⟨_, _, rfl⟩ (fun i k ρ hk iv nx ct hn => ?_) (fun ρ iv => ?_)
  · obtain ⟨x, y, rfl⟩ := iv
    obtain ⟨rfl, hk⟩ := range_get hk
    have hl := jO_len row (inL js) k
    have fin1 : ∀ (p : Nat) (x y : VL.Slot), p = jPl row (inL js) (jO row (inL js) k) k → nx [.shr (.py (tI row)), .shr (.py (tN js)), .own (.py (.list (((jO row (inL js) k).map pN).take p ++ PyData.int (k : Nat) :: ((jO row (inL js) k).map pN).drop p))), x, y, .un, .un, .un, .un] := fun p x y e => by
      refine (hn _ ⟨x, y, ?_⟩).1
      rw [jO_succ, ← e, ← ins_pN]; rfl
    simp [ex_eqN, pn_plain, pn_depth]
    by_cases c : k ∈ js
    · have hb := h3 k c
      unfold mateB at hb
      obtain ⟨m, hm⟩ := Option.isSome_iff_exists.mp hb
      have hmk := (mateOf_lt hm).1
      have hmm : m ∈ jO row (inL js) k := jO_mem.mpr hmk
      have hix := idx_app hmm
      rw [hm]
      simp [c, oN, pn_plain, pn_depth]
      refine ⟨_, pn_ix hmm, by omega, by omega, by omega, ?_⟩
      refine fin1 _ _ _ ?_
      unfold jPl inL
      rw [hm]
      simp [c]
    · simp [c]
      refine ⟨by omega, by omega, ?_⟩
      refine fin1 _ _ _ ?_
      unfold jPl
      rw [hl, if_neg (by unfold inL; simpa using c)]
  · obtain ⟨x, y, rfl⟩ := iv
    simp [matesP, -forGo, -S_places_in]
    refine ⟨_, false, rfl, by omega, by rw [hle]; exact hpm, ?_⟩
    generalize hO : jO row (inL js) row.length = O at hpm hle q ⊢
    refine ⟨by omega, ?_⟩
    rw [matesL_map, enum_range]
    refine for_enc (fun k => PyData.tuple [.int (k : Nat), oN (mateOf row k)]) (fun i ρ => ∃ (x y : VL.Slot), ρ = [.shr (.py (tI row)), .shr (.py (tN js)), .shr (.py (.list (O.map pN))), x, y, .shr (.py (.list ((placesL O).map pN))), .own (.py (.list ((List.range i).map fun k => pN (jLow row (inL js) k)))), .own (.py (.list ((List.range i).map fun k => pN (jHigh row (inL js) k)))), .un]) ⟨_, _, rfl⟩ (fun i k ρ hk iv nx ct hn => ?_) (fun ρ iv => ?_)
    · obtain ⟨x, y, rfl⟩ := iv
      obtain ⟨rfl, hk⟩ := range_get hk
      have fin1 : ∀ (p r : Nat) (x y : VL.Slot), p = jLow row (inL js) k → r = jHigh row (inL js) k → nx [.shr (.py (tI row)), .shr (.py (tN js)), .shr (.py (.list (O.map pN))), x, y, .shr (.py (.list ((placesL O).map pN))), .own (.py (.list (((List.range k).map fun k => pN (jLow row (inL js) k)) ++ [PyData.int (p : Nat)]))), .own (.py (.list (((List.range k).map fun k => pN (jHigh row (inL js) k)) ++ [PyData.int (r : Nat)]))), .un] := fun p r x y e1 e2 => by
        refine (hn _ ⟨x, y, ?_⟩).1
        rw [e1, e2, List.range_succ, List.map_append, List.map_append]; rfl
      have ak := places_at (ms := O) (m := k) (by omega)
      have eL : jLow row (inL js) k = match mateOf row k with | some m => if k ∈ js then 0 else O.idxOf m + 1 | none => 0 := by
        unfold jLow; rw [← hO]; simp only [inL_iff] <;> rfl
      have eH : jHigh row (inL js) k = if k ∈ js then (match mateOf row k with | some m => O.idxOf m | none => O.idxOf k) else O.idxOf k := by
        unfold jHigh; rw [← hO]; simp only [inL_iff] <;> rfl
      cases hm : mateOf row k with
      | none =>
        have c : k ∉ js := fun c => by have := h3 k c; unfold mateB at this; rw [hm] at this; cases this
        rw [hm] at eL eH
        simp only [c, if_false] at eL eH
        simp [oN, ex_eqN, nin_eqN, pn_plain, pn_depth, c]
        refine ⟨by omega, _, ak, by omega, ?_⟩
        exact fin1 0 (O.idxOf k) _ _ eL.symm eH.symm
      | some m =>
        have hmk := (mateOf_lt hm).1
        have am := places_at (ms := O) (m := m) (by omega)
        rw [hm] at eL eH
        simp only at eL eH
        by_cases c : k ∈ js
        · simp only [c, if_true] at eL eH
          simp [oN, ex_eqN, nin_eqN, pn_plain, pn_depth, c]
          refine ⟨by omega, _, am, by omega, ?_⟩
          exact fin1 0 (O.idxOf m) _ _ eL.symm eH.symm
        · simp only [c, if_false] at eL eH
          simp [oN, ex_eqN, nin_eqN, pn_plain, pn_depth, c]
          refine ⟨_, am, ?_⟩
          simp [pN]
          refine ⟨by omega, _, ak, by omega, ?_⟩
          exact fin1 (O.idxOf m + 1) (O.idxOf k) _ _ eL.symm eH.symm
    · obtain ⟨x, y, rfl⟩ := iv
      simp [-forGo]
      refine ⟨by omega, ?_⟩
      rw [rangeP_eq]
      refine for_enc (encR 0) (fun i ρ => ∃ (x y : VL.Slot) (last : Nat), ρ = [.shr (.py (tI row)), .shr (.py (tN js)), .shr (.py (.list (O.map pN))), x, y, .shr (.py (.list ((placesL O).map pN))), .own (.py (.list ((List.range row.length).map fun k => pN (jLow row (inL js) k)))), .own (.py (.list ((List.range row.length).map fun k => pN (jHigh row (inL js) k)))), .shr (.py (.int (last : Nat)))] ∧ (∀ k, i = k + 1 → last = maxTo (jLow row (inL js)) k) ∧ (i = 0 → last = 0) ∧ ∀ k, k < i → jStep row (inL js) k) ⟨_, _, 0, rfl, by simp, by simp, by simp⟩ (fun i k ρ hk iv nx ct hn => ?_) (fun ρ iv => ?_)
      · obtain ⟨x, y, last, rfl, i1, i2, i3⟩ := iv
        obtain ⟨rfl, hk⟩ := range_get hk
        have hmx : max last (jLow row (inL js) k) = maxTo (jLow row (inL js)) k := by
          cases k with
          | zero => rw [i2 rfl]; simp [maxTo]
          | succ k => rw [i1 k rfl]; rfl
        have al : atI ((List.range row.length).map fun k => pN (jLow row (inL js) k)) (k : Int) = some (.int (jLow row (inL js) k : Nat)) := atI_map (f := fun k => pN (jLow row (inL js) k)) (List.getElem?_range hk)
        have ec : cutL ((List.range row.length).map fun k => pN (jHigh row (inL js) k)) (some (k : Int)) none = ((List.range (row.length - 1 - k + 1)).map fun j => jHigh row (inL js) (k + j)).map pN := by
          rw [cutL_drop _ (by omega), show (k : Int).toNat = k by omega, drop_map_range, List.map_map, show row.length - 1 - k + 1 = row.length - k by omega]
          rfl
        have hmin := minL_from (jHigh row (inL js)) k (row.length - 1 - k)
        simp [al]
        rw [ec]
        refine ⟨_, allI_pN _, by simp, ?_⟩
        rw [List.map_map]
        simp only [Function.comp_def]
        have hcd : (minL ((List.range (row.length - 1 - k + 1)).map fun x => (jHigh row (inL js) (k + x) : Int)) < max (last : Int) (jLow row (inL js) k : Int)) ↔ ¬ jStep row (inL js) k := by
          rw [hmin]; unfold jStep; omega
        by_cases c : jStep row (inL js) k
        · rw [if_neg (fun h => hcd.mp h c)]
          refine (hn _ ⟨.shr (.py (.int (k : Nat))), y, maxTo (jLow row (inL js)) k, by rw [← hmx, show max (last : Int) (jLow row (inL js) k : Int) = (max last (jLow row (inL js) k) : Nat) by omega]; rfl, fun k' e => by rw [show k' = k by omega], fun e => by omega, fun k' hk' => ?_⟩).1
          by_cases e : k' = k
          · rw [e]; exact c
          · exact i3 k' (by omega)
        · rw [if_pos (hcd.mpr c)]
          rw [if_neg (fun h => c (h k hk))] at q
          exact q
      · obtain ⟨x, y, last, rfl, i1, i2, i3⟩ := iv
        rw [List.length_range] at i3
        rw [if_pos (show jOk row (inL js) from i3)] at q
        simp
        exact q
/-- wrong joiners -/
def badJ (row : List Int) (p : PyData) : Bool := match p with
  | .int i => !(decide (0 ≤ i) && decide (i ≤ (row.length : Int) - 1)) || !mateB row i.toNat
  | _ => true
@[simp] def S_order_with : SV := fun ds Q E => ∃ (row : List Int) (vs : List PyData), ds = [.py (tI row), .py (.tuple vs)] ∧ row.length ≤ 40 ∧ vs.length ≤ 1000 ∧
  (∀ v, vs.find? (badJ row) = some v → E ⟨"NoPerson", [("value", v)]⟩) ∧
  (∀ js : List Nat, vs = js.map pN → (∀ k ∈ js, mateB row k = true) → (jOk row (inL js) → Q (.py (tN (jO row (inL js) row.length)))) ∧ (¬ jOk row (inL js) → E ⟨"Impossible", []⟩))
end LawP
set_option Elab.async false
set_option linter.all false
set_option maxRecDepth 100000
set_option maxHeartbeats 4000000
/-! VL142: sorted(set(xs)), xs a list or a tuple of tuples of ints of which fewer than 63 differ -/
namespace VL
open PySem PySem.Spec PyProof.Rows L2
/-! ### members that differ -/
def dd : List (List Int) → List (List Int)
  | [] => []
  | x :: xs => if x ∈ xs then dd xs else x :: dd xs
theorem dd_mem {k : List Int} : ∀ {L : List (List Int)}, k ∈ dd L ↔ k ∈ L
  | [] => Iff.rfl
  | x :: xs => by
    unfold dd
    by_cases h : x ∈ xs
    · rw [if_pos h, dd_mem]
      exact ⟨fun z => .tail _ z, fun z => (List.mem_cons.mp z).elim (fun e => e ▸ h) id⟩
    · rw [if_neg h, List.mem_cons, List.mem_cons, dd_mem]
theorem dd_nodup : ∀ L : List (List Int), (dd L).Nodup
  | [] => List.nodup_nil
  | x :: xs => by
    unfold dd
    by_cases h : x ∈ xs
    · rw [if_pos h]; exact dd_nodup xs
    · rw [if_neg h]; exact List.nodup_cons.mpr ⟨fun z => h (dd_mem.mp z), dd_nodup xs⟩
theorem nodup_le {α : Type} [DecidableEq α] : ∀ {M L : List α}, M.Nodup → (∀ x ∈ M, x ∈ L) → M.length ≤ L.length
  | [], _, _, _ => Nat.zero_le _
  | x :: M, L, h, s => by
    obtain ⟨h1, h2⟩ := List.nodup_cons.mp h
    have hx := s x List.mem_cons_self
    have := nodup_le (M := M) (L := L.erase x) h2 fun y hy => (List.mem_erase_of_ne (fun e : y = x => h1 (by rw [← e]; exact hy))).mpr (s y (List.mem_cons_of_mem _ hy))
    have := List.length_erase_of_mem hx
    have := List.length_pos_of_mem hx
    rw [List.length_cons]
    omega
theorem dd_le {M L : List (List Int)} (h : M.Nodup) (s : ∀ x ∈ M, x ∈ L) : M.length ≤ (dd L).length := nodup_le h fun x hx => dd_mem.mpr (s x hx)
theorem nodup_perm {α : Type} [DecidableEq α] : ∀ {M L : List α}, M.Nodup → L.Nodup → (∀ x, x ∈ M ↔ x ∈ L) → M.Perm L
  | [], L, _, _, h => by
    cases L with
    | nil => exact .nil
    | cons y L => exact absurd ((h y).mpr List.mem_cons_self) (by simp)
  | x :: M, L, h1, h2, h => by
    obtain ⟨a, b⟩ := List.nodup_cons.mp h1
    have hx := (h x).mp List.mem_cons_self
    refine (List.Perm.cons x (nodup_perm b (h2.erase x) fun y => ?_)).trans (List.perm_cons_erase hx).symm
    rw [h2.mem_erase_iff]
    refine ⟨fun hy => ⟨fun e => a (e ▸ hy), (h y).mp (.tail _ hy)⟩, fun ⟨hn, hy⟩ => ?_⟩
    rcases List.mem_cons.mp ((h y).mpr hy) with e | z
    · exact absurd e hn
    · exact z
/-- the set's members, ascending -/
def sdT (L : List (List Int)) : List (List Int) := sortT (dd L)
theorem sdT_mem {k : List Int} {L : List (List Int)} : k ∈ sdT L ↔ k ∈ L := (sortT_perm _).mem_iff.trans dd_mem
theorem sdT_uniq {M L : List (List Int)} (h1 : M.Nodup) (h2 : M.Pairwise fun a b => lexL b a = false) (h : ∀ x, x ∈ M ↔ x ∈ L) : M = sdT L :=
  sortT_eq (nodup_perm h1 (dd_nodup L) fun x => (h x).trans dd_mem.symm) h2
/-! ### the order of codes -/
theorem code_bd {B : Int} : ∀ {l : List Int}, TS.Bd B l → 0 ≤ TS.code B l ∧ TS.code B l < B ^ l.length := by
  intro l h
  induction l with
  | nil => exact ⟨Int.le_refl _, by show (0 : Int) < B ^ 0; simp⟩
  | cons x xs ih =>
    obtain ⟨a, c⟩ := ih h.tail
    have hx : 0 ≤ x ∧ x < B := h x List.mem_cons_self
    show 0 ≤ x * B ^ xs.length + TS.code B xs ∧ x * B ^ xs.length + TS.code B xs < B ^ (xs.length + 1)
    have hp : (0 : Int) ≤ B ^ xs.length := by omega
    have m0 : 0 ≤ x * B ^ xs.length := Int.mul_nonneg hx.1 hp
    have m1 : (x + 1) * B ^ xs.length ≤ B * B ^ xs.length := Int.mul_le_mul_of_nonneg_right (by omega) hp
    rw [Int.add_mul, Int.one_mul] at m1
    rw [Int.pow_succ, Int.mul_comm (B ^ xs.length)]
    omega
theorem lex_of_code {B : Int} : ∀ {l m : List Int}, TS.Bd B l → TS.Bd B m → l.length = m.length → TS.code B l ≤ TS.code B m → lexL m l = false
  | [], [], _, _, _, _ => rfl
  | [], _ :: _, _, _, e, _ => by cases e
  | _ :: _, [], _, _, e, _ => by cases e
  | x :: l, y :: m, h1, h2, e, h => by
    have el : l.length = m.length := by simpa using e
    have h' : x * B ^ l.length + TS.code B l ≤ y * B ^ m.length + TS.code B m := h
    obtain ⟨a1, a2⟩ := code_bd h1.tail
    obtain ⟨b1, b2⟩ := code_bd h2.tail
    rw [← el] at h' b2
    unfold lexL
    by_cases c : y = x
    · subst c
      rw [if_pos rfl]
      exact lex_of_code h1.tail h2.tail el (by omega)
    · rw [if_neg c]
      refine decide_eq_false fun z => ?_
      have hp : (0 : Int) ≤ B ^ l.length := by omega
      have m1 : (y + 1) * B ^ l.length ≤ x * B ^ l.length := Int.mul_le_mul_of_nonneg_right (by omega) hp
      rw [Int.add_mul, Int.one_mul] at m1
      omega
/-! ### the machine -/
section
variable {P : Program} {w : World} {A : Around} {E : Value → Shared → Prop}
abbrev Few (ks : List (Addr × List Int)) : Prop := ∀ M : List (Addr × List Int), (∀ p ∈ M, p ∈ ks) → (M.map (·.2)).Nodup → M.length < 63
theorem fill_set {I S : Addr} {fp wr : List Addr} {G : Array GenState → Array GenState → Prop} {n : Nat} {Pv : Nat → Value → Prop} {St : Nat → Shared → Prop} {R : Result → Shared → Prop} {ks : List (Addr × List Int)} {h0 : Heap}
    (wk : WalksS P w A.in1 I fp wr G n Pv St) (sf : S ∉ fp) (cn : n = ks.length) (lim : Few ks) (got : ∀ i v, Pv i v → ∃ p, ks[i]? = some p ∧ v = .ref p.1)
    (tp : ∀ p ∈ ks, IsT P w h0 p.2 p.1) (sn : h0.get? S = none) (wn : ∀ b ∈ wr, h0.get? b = none) (un : A.in1.units < cLine) (left : Nat) :
    ∀ (i : Nat) (s : Shared), i + left = n → St i s → (∀ b o, h0.get? b = some o → s.heap.get? b = some o) → (∃ L es ep t, SetTR P w s.heap S L es ep t ∧ Got ks i L) →
      (∀ z L es ep t, Moved (S :: wr) G s z → SetTR P w z.heap S L es ep t → Got ks n L → (∀ b o, h0.get? b = some o → z.heap.get? b = some o) → R (.ok (.ret .none)) z) →
      codeAny (model P w) A (.builtin "set.update.loop" ⟨[.ref S, .ref I], []⟩) R s := by
  have sw : S ∉ wr := fun h => sf (wk.sub _ h)
  have old : ∀ {a z : Shared}, Moved wr G a z → (∀ b o, h0.get? b = some o → a.heap.get? b = some o) → ∀ b o, h0.get? b = some o → z.heap.get? b = some o :=
    fun mv q b o e => mv.heap b o (fun m => by cases (wn b m).symm.trans e) (q b o e)
  induction left with
  | zero =>
    rintro i s rfl st kp ⟨L, es, ep, t, R0, g⟩ fin
    refine codeAny_builtin F.entry_set_update_loop ?_
    rw [Around.under_plainId F.plain_set_update_loop _]
    refine wpAny_bind (m := pyNext (.ref I)) (wk.done s _ _ st fun z mv => wpAny_pure ?_)
    have kp' := old mv kp
    exact fin z L es ep t (mv.mono fun b => List.mem_cons_of_mem _) (R0.keep (fun o e => mv.heap S o sw e) fun p hp => isT_keep (tp p (List.mem_of_mem_take (g.sub p hp))) kp') g kp'
  | succ m ih =>
    rintro i s ei st kp ⟨L, es, ep, t, R0, g⟩ fin
    refine codeAny_builtin F.entry_set_update_loop ?_
    rw [Around.under_plainId F.plain_set_update_loop _]
    refine wpAny_bind (m := pyNext (.ref I)) (wk.item i s _ _ (by omega) st fun v z hv st' mv => ?_)
    obtain ⟨p, hp, rfl⟩ := got i v hv
    have kp' := old mv kp
    have inL : ∀ q ∈ L, q ∈ ks := fun q hq => List.mem_of_mem_take (g.sub q hq)
    have R1 : SetTR P w z.heap S L es ep t := R0.keep (fun o e => mv.heap S o sw e) fun q hq => isT_keep (tp q (inL q hq)) kp'
    have tx : IsT P w z.heap p.2 p.1 := isT_keep (tp p (List.mem_of_getElem? hp)) kp'
    refine wpAny_bind (m := holding [Value.ref p.1] (setAdd S (.ref p.1))) (wpAny_holding ?_)
    unfold setAdd
    refine wpAny_holding (wpAny_bind (wpAny_pyHash_tuple un tx ?_))
    have small := lim L inL R0.nd
    refine add_at (s := { z with toks := z.toks + (p.2.length + 1) }) R1 tx un (Nat.succ_lt_succ small) fun b g2 L2 es2 ep2 t2 same R2 in1 in2 => ?_
    have g' : Got ks (i + 1) L2 := (Classical.em (p.2 ∈ L.map (·.2))).elim (fun c => in1 c ▸ g.same hp c) fun c => g.more hp (in2 c)
    have kp2 : ∀ b o, h0.get? b = some o → g2.get? b = some o := fun b o e => (same.2 b fun q => by cases (q ▸ sn).symm.trans e).trans (kp' b o e)
    refine wpAny_pure ⟨plainId_quiet F.plain_set_update_loop _, ih (i + 1) _ (by omega) (wk.frame _ z _ _ st' (Nat.le_add_right _ _) fun b hb o e => ?_) kp2 ⟨L2, es2, ep2, t2, R2, g'⟩ fun y L3 es3 ep3 t3 mv3 R3 g3 kp3 => ?_⟩
    · exact (same.2 b fun q => sf (q ▸ hb)).trans e
    · exact fin y L3 es3 ep3 t3 (Moved.trans wk.gtrans ((mv.mono fun b => List.mem_cons_of_mem _).then_heap (Nat.le_add_right _ _) fun b o hb e => (same.2 b fun q => hb (q ▸ List.mem_cons_self)).trans e) mv3) R3 g3 kp3
variable {s : Shared}
theorem init_tupsL {l S : Addr} {us : Array Value} {ks : List (Addr × List Int)} {R : Shared → Prop} (calm : A.handled = none) (un : A.units + 3 < cLine) (hS : s.heap.get? S = some (emptyS w)) (lst : s.heap.IsList l us) (eks : us.toList = ks.map fun p => Value.ref p.1) (tp : ∀ p ∈ ks, IsT P w s.heap p.2 p.1) (lim : Few ks)
    (h0 : Heap) (hk : ∀ p ∈ ks, IsT P w h0 p.2 p.1) (sn : h0.get? S = none) (lt0 : ∀ b o, h0.get? b = some o → s.heap.get? b = some o)
    (k : ∀ (g : Heap) (tk : Nat) L es ep t, SetTR P w g S L es ep t → Got ks ks.length L → (∀ b o, h0.get? b = some o → g.get? b = some o) → R { s with heap := g, toks := tk }) :
    wpAny (model P w) A (Builtin.«set.__init__» ⟨[.ref S, .ref l], []⟩) (fun fin s' => match fin with | .done f => f = .ret .none ∧ R s' | .again c' => False) (fun _ _ => False) s := by
  have isS : s.TypeIs (.ref S) "set" := ⟨_, hS, rfl⟩
  have isL : s.TypeIs (.ref l) "list" := lst.typeIs
  have sz : us.size = ks.length := by
    have q := congrArg List.length eks
    rwa [Array.length_toList, List.length_map] at q
  unfold Builtin.«set.__init__» noKeywords Builtin.Frozenset.updateFrom
  have s1 := F.sub_list_set
  have s2 := F.sub_list_frozenset
  have s3 : (Value.type "list" == Value.type "dict") = false := by decide
  obtain ⟨ob, hob, hcl, nn, hda⟩ := lst
  obtain ⟨c0, d0, da0, sl0⟩ := ob
  simp only at hcl hda
  subst hcl hda
  generalize hit : pyIter = it
  wp_walk
  subst hit
  have ll : l < s.heap.objs.size := Heap.lt_size hob
  have lS : S < s.heap.objs.size := Heap.lt_size hS
  have nSl : S ≠ l := fun e => by
    rw [e, hob] at hS
    exact absurd (congrArg (fun o : Option Obj => o.map fun z => z.cls) hS) (by simp)
  refine wpAny_pyIter_list (items := us) ⟨_, hob, rfl, nn, rfl⟩ ?_
  refine wpAny_bind (wpAny_runValue ?_)
  have big : ∀ b o, h0.get? b = some o → b < s.heap.objs.size := fun b o e => Heap.lt_size (lt0 b o e)
  refine fill_set (n := us.size) (h0 := h0) ((Walks.list (A := A.in1) (by simp [calm]) s.heap.objs.size l (Nat.ne_of_lt ll) us).toS) (by simp only [List.mem_cons, List.not_mem_nil, or_false, not_or]; exact ⟨Nat.ne_of_lt lS, nSl⟩) sz lim
    (fun i v hv => ?_) hk sn (fun b hb => ?_) (by show A.units + _ < _; omega) us.size 0 _ (Nat.zero_add _) ⟨⟨_, Heap.get?_push_size _ rfl, rfl, rfl⟩, ⟨_, Heap.get?_push_of_some _ hob, rfl, nn, rfl⟩⟩ (fun b o e => Heap.get?_push_of_some _ (lt0 b o e)) ⟨[], _, _, _, setTR_fresh (Heap.get?_push_of_some _ hS), Got.zero ks⟩ fun s2 L es ep t mv R2 g2 kp => ?_
  · have e := congrArg (fun z : List Value => z[i]?) eks
    simp only [Array.getElem?_toList, List.getElem?_map] at e
    rw [hv] at e
    cases q : ks[i]? with
    | none => rw [q] at e; cases e
    | some p => rw [q] at e; exact ⟨p, rfl, Option.some.inj e⟩
  · obtain rfl := List.mem_singleton.mp hb
    cases q : h0.get? s.heap.objs.size with
    | none => rfl
    | some o => exact absurd (big _ _ q) (Nat.lt_irrefl _)
  · obtain ⟨g, g3, dr, tk, os2⟩ := s2
    obtain rfl : g3 = s.gens := mv.gens
    obtain rfl : dr = s.drawn := mv.drawn
    obtain rfl : os2 = s.os := mv.os
    rw [sz] at g2
    exact wpAny_pure (wpAny_pure ⟨rfl, k g tk L es ep t R2 g2 kp⟩)
theorem init_tupsT {l S : Addr} {us : Array Value} {ks : List (Addr × List Int)} {R : Shared → Prop} (calm : A.handled = none) (un : A.units + 3 < cLine) (hS : s.heap.get? S = some (emptyS w)) (lst : s.heap.IsTuple l us) (eks : us.toList = ks.map fun p => Value.ref p.1) (tp : ∀ p ∈ ks, IsT P w s.heap p.2 p.1) (lim : Few ks)
    (h0 : Heap) (hk : ∀ p ∈ ks, IsT P w h0 p.2 p.1) (sn : h0.get? S = none) (lt0 : ∀ b o, h0.get? b = some o → s.heap.get? b = some o)
    (k : ∀ (g : Heap) (tk : Nat) L es ep t, SetTR P w g S L es ep t → Got ks ks.length L → (∀ b o, h0.get? b = some o → g.get? b = some o) → R { s with heap := g, toks := tk }) :
    wpAny (model P w) A (Builtin.«set.__init__» ⟨[.ref S, .ref l], []⟩) (fun fin s' => match fin with | .done f => f = .ret .none ∧ R s' | .again c' => False) (fun _ _ => False) s := by
  have isS : s.TypeIs (.ref S) "set" := ⟨_, hS, rfl⟩
  have isL : s.TypeIs (.ref l) "tuple" := by obtain ⟨o, h1, h2, _⟩ := lst; exact ⟨o, h1, h2⟩
  have sz : us.size = ks.length := by
    have q := congrArg List.length eks
    rwa [Array.length_toList, List.length_map] at q
  unfold Builtin.«set.__init__» noKeywords Builtin.Frozenset.updateFrom
  have s1 := F.sub_tuple_set
  have s2 := F.sub_tuple_frozenset
  have s3 : (Value.type "tuple" == Value.type "dict") = false := by decide
  obtain ⟨ob, hob, hcl, nn, hda⟩ := lst
  obtain ⟨c0, d0, da0, sl0⟩ := ob
  simp only at hcl hda
  subst hcl hda
  generalize hit : pyIter = it
  wp_walk
  subst hit
  have ll : l < s.heap.objs.size := Heap.lt_size hob
  have lS : S < s.heap.objs.size := Heap.lt_size hS
  have nSl : S ≠ l := fun e => by
    rw [e, hob] at hS
    exact absurd (congrArg (fun o : Option Obj => o.map fun z => z.cls) hS) (by simp)
  refine wpAny_pyIter_tuple (items := us) ⟨_, hob, rfl, nn, rfl⟩ ?_
  refine wpAny_bind (wpAny_runValue ?_)
  have big : ∀ b o, h0.get? b = some o → b < s.heap.objs.size := fun b o e => Heap.lt_size (lt0 b o e)
  refine fill_set (n := us.size) (h0 := h0) ((Walks.tuple (A := A.in1) (by simp [calm]) s.heap.objs.size l (Nat.ne_of_lt ll) us).toS) (by simp only [List.mem_cons, List.not_mem_nil, or_false, not_or]; exact ⟨Nat.ne_of_lt lS, nSl⟩) sz lim
    (fun i v hv => ?_) hk sn (fun b hb => ?_) (by show A.units + _ < _; omega) us.size 0 _ (Nat.zero_add _) ⟨⟨_, Heap.get?_push_size _ rfl, rfl, rfl⟩, ⟨_, Heap.get?_push_of_some _ hob, rfl, nn, rfl⟩⟩ (fun b o e => Heap.get?_push_of_some _ (lt0 b o e)) ⟨[], _, _, _, setTR_fresh (Heap.get?_push_of_some _ hS), Got.zero ks⟩ fun s2 L es ep t mv R2 g2 kp => ?_
  · have e := congrArg (fun z : List Value => z[i]?) eks
    simp only [Array.getElem?_toList, List.getElem?_map] at e
    rw [hv] at e
    cases q : ks[i]? with
    | none => rw [q] at e; cases e
    | some p => rw [q] at e; exact ⟨p, rfl, Option.some.inj e⟩
  · obtain rfl := List.mem_singleton.mp hb
    cases q : h0.get? s.heap.objs.size with
    | none => rfl
    | some o => exact absurd (big _ _ q) (Nat.lt_irrefl _)
  · obtain ⟨g, g3, dr, tk, os2⟩ := s2
    obtain rfl : g3 = s.gens := mv.gens
    obtain rfl : dr = s.drawn := mv.drawn
    obtain rfl : os2 = s.os := mv.os
    rw [sz] at g2
    exact wpAny_pure (wpAny_pure ⟨rfl, k g tk L es ep t R2 g2 kp⟩)
theorem set_of_tups {l : Addr} {us : Array Value} {ks : List (Addr × List Int)} {Q : Value → Shared → Prop} (calm : A.handled = none) (un : A.units + 9 < cLine) (lst : s.heap.IsList l us ∨ s.heap.IsTuple l us) (eks : us.toList = ks.map fun p => Value.ref p.1) (tp : ∀ p ∈ ks, IsT P w s.heap p.2 p.1) (lim : Few ks)
    (k : ∀ (g : Heap) (tk : Nat) L es ep t, SetTR P w g s.heap.objs.size L es ep t → Got ks ks.length L → (∀ b o, s.heap.get? b = some o → g.get? b = some o) → Q (.ref s.heap.objs.size) { s with heap := g, toks := tk }) :
    wpAny (model P w) A (call (.type "set") [.ref l]) Q E s := by
  obtain ⟨q1, q2, isMro⟩ := F.called_set.mro
  have isMade := F.called_set.made; have isSub := F.called_set.sub
  refine wpAny_call (codeAny_of_tree (show wpAny _ _ (callAny (.type "set") _) _ _ _ from wpAny_pure ⟨Code.quiet_builtin _ (by decide +kernel), codeAny_builtin F.entry_type_call ?_⟩))
  rw [Around.under_plain (weight_type_call_type "set" [.ref l] []) rfl]
  have p1 := F.called_set.notType; have p2 := F.called_set.canCreate; have p3 := F.typeCall_set_1 (.ref l)
  repeat (any_goals (first | assumption | wp_step))
  refine codeAny_mono (code_set_led1 (.ref l) (E := E) (Q₁ := fun obj st => obj = .ref s.heap.objs.size ∧ st = { s with heap := s.heap.push (emptyS w) }) ⟨rfl, rfl⟩) fun res st0 hres => ?_
  match res, hres with
  | .error _, hres => exact hres
  | .ok (.ret obj), hres =>
    obtain ⟨rfl, rfl⟩ := hres
    have hS : (s.heap.push (emptyS w)).get? s.heap.objs.size = some (emptyS w) := Heap.get?_push_size _ rfl
    have tyS : Shared.TypeIs { s with heap := s.heap.push (emptyS w) } (.ref s.heap.objs.size) "set" := ⟨_, hS, rfl⟩
    have iL := F.called_set.init.lookup; have iB := F.called_set.init.bind (.ref s.heap.objs.size)
    repeat (any_goals (first | assumption | wp_step))
    have sn : s.heap.get? s.heap.objs.size = none := by
      cases q : s.heap.get? s.heap.objs.size with
      | none => rfl
      | some o => exact absurd (Heap.lt_size q) (Nat.lt_irrefl _)
    have tp' : ∀ p ∈ ks, IsT P w (s.heap.push (emptyS w)) p.2 p.1 := fun p hp => isT_keep (tp p hp) fun b o e => Heap.get?_push_of_some _ e
    refine codeAny_mono (codeAny_call_builtin (R := wants (fun r st => r = .none ∧ Q (.ref s.heap.objs.size) st) E) F.called_set.init.plain F.entry_set_init (check_set_init_1 tyS (wpAny_mono (lst.elim
      (fun lst => init_tupsL (S := s.heap.objs.size) (R := fun st => Q (.ref s.heap.objs.size) st) (by simp [calm]) (by simp; omega) hS (lst.push _) eks tp' lim s.heap tp sn (fun b o e => Heap.get?_push_of_some _ e) fun g tk L es ep t h1 h2 h3 => k g tk L es ep t h1 h2 h3)
      (fun lst => init_tupsT (S := s.heap.objs.size) (R := fun st => Q (.ref s.heap.objs.size) st) (by simp [calm]) (by simp; omega) hS (lst.push _) eks tp' lim s.heap tp sn (fun b o e => Heap.get?_push_of_some _ e) fun g tk L es ep t h1 h2 h3 => k g tk L es ep t h1 h2 h3)) (fun fin st q => ?_) fun _ _ q => q.elim))) fun res2 st2 hres2 => ?_
    · cases fin with
      | done f =>
        obtain ⟨rfl, q⟩ := q
        exact ⟨rfl, q⟩
      | again c => exact q.elim
    · match res2, hres2 with
      | .error _, hres2 => exact hres2
      | .ok (.ret r), hres2 =>
        obtain ⟨rfl, q⟩ := hres2
        repeat (any_goals (first | assumption | wp_step))
end
/-! ### the rule -/
section
variable {X : Cx}
/-- tuples of ints at their addresses -/
def tSortSetT (K : PySem.W.Frag) (ta : TE) : TE := fun σ H Q => ta σ H fun x H1 => ∃ (l : Addr) (ks : List (Addr × List Int)) (d : Nat), x = V.ref l ∧ (SqL K H1 l (ks.map fun p => V.ref p.1) ∨ SqT K H1 l (ks.map fun p => V.ref p.1)) ∧ (∀ p ∈ ks, SqT K H1 p.1 (p.2.map V.int)) ∧ Few ks ∧ 1 ≤ d ∧ (∀ p ∈ ks, p.2.length = d ∧ TS.Bd 64 p.2) ∧
  ∀ (L : List (Addr × List Int)) (p : Addr), L.map (·.2) = sdT (ks.map (·.2)) → (∀ q ∈ L, q ∈ ks) → H1 p = none → Q (.ref p) (upd H1 p (.lst (L.map fun q => V.ref q.1)))
theorem pe_sortSetT {a : Expr} {ta : TE} {p p2 q pos : Pos} (hc : X.calm = true) (hu : X.A.units + 64 < cLine) (hg : Gl X "sorted") (hm : X.mg "sorted" = none) (hg2 : Gl X "set") (hm2 : X.mg "set" = none) (ha : PE X a ta)
    (na : starEach [a] X.env = (false, eval a X.env) :: starEach [] X.env := by rfl) : PE X (.Call (.Name "sorted" p) [.Call (.Name "set" p2) [a] [] q] [] pos) (tSortSetT X.K ta) := by
  refine ⟨fun pins s σ H Q I h => ?_⟩
  refine Call_ (ld_blt I hg hm bb_sorted ?_)
  refine PyProof.Rows.callWith_builtin1 (PyProof.Rows.args_cons ?_ rfl) rfl rfl
  refine Call_ (ld_blt I hg2 hm2 PyProof.Rows.boot_set ?_)
  refine PyProof.Rows.callWith_type1 (PyProof.Rows.args_cons (thn (ha.run pins s σ H _ I h) fun v s1 ⟨x, H1, I1, r1, q1⟩ => PyProof.Rows.args_nil ?_) na) na rfl
  obtain ⟨l, ks, d, rfl, hq, ht, lim, hd, hb, q1⟩ := q1
  cases r1
  obtain ⟨us, eu, lst⟩ : ∃ us : Array Value, us.toList = ks.map (fun p => Value.ref p.1) ∧ (s1.heap.IsList l us ∨ s1.heap.IsTuple l us) := by
    rcases hq with hq | hq
    · obtain ⟨its, r, pl, hz⟩ := I1.list hq
      exact ⟨_, by simpa using refs_of_vals r, .inl pl.isList⟩
    · obtain ⟨its, r, pl, hz⟩ := I1.tuple hq
      exact ⟨_, by simpa using refs_of_vals r, .inr pl⟩
  refine set_of_tups (P := X.prog) (w := X.w) (I1.ok.hd hc) (by omega) lst eu (fun p hp => I1.isT (ht p hp)) lim fun g tk L es ep t R got hk => ?_
  refine PyProof.Rows.args_nil ?_
  have I2 : Inv X pins σ H1 { s1 with heap := g, toks := tk } := I1.kept hk
  have R' : SetTR X.prog X.w ({ s1 with heap := g, toks := tk } : Shared).heap s1.heap.objs.size L es ep t := R
  have sub : ∀ p ∈ L, p ∈ ks := fun p hp => List.mem_of_mem_take (got.sub p hp)
  generalize ({ s1 with heap := g, toks := tk } : Shared) = s3 at I2 R' ⊢
  refine sorted_setT R' (I2.ok.hd hc) hd (fun p hp => hb p (sub p hp)) fun s2 p out c L' k g o hp hgd hi pm so => ?_
  have fresh : H1 p = none := I2.hok.fresh hp
  have few : L'.length < 64 := by rw [pm.length_eq]; exact R.few
  have size : (L'.map fun q => V.ref q.1).length ≤ sizeLine := by rw [List.length_map, szl]; omega
  have vals : Vals (L'.map fun q => V.ref q.1) out.toList := by rw [hi]; exact vals_of_refs L'
  have J : Inv X pins σ (upd H1 p (.lst (L'.map fun q => V.ref q.1))) { s3 with heap := s2.heap, gens := s2.gens, drawn := s2.drawn, toks := s2.toks } :=
    I2.call (ch := []) (Un.laid k hp fresh) (I2.hok.laid k hp ⟨size, out.toList, c, vals, hgd⟩) (by rw [g]; exact I2.bare) (fun _ z => nomatch z)
  have e : s2 = { s3 with heap := s2.heap, gens := s2.gens, drawn := s2.drawn, toks := s2.toks } := by
    cases s2
    cases s3
    cases o
    rfl
  rw [e]
  have inK : ∀ q ∈ L', q ∈ ks := fun q hq => sub q (pm.mem_iff.mp hq)
  refine ⟨.ref p, _, J, rfl, q1 L' p (sdT_uniq ((pm.map (·.2)).nodup_iff.mpr R.nd) ?_ fun x => ?_) inK fresh⟩
  · rw [List.pairwise_map]
    exact so.imp_of_mem fun {a b} ha hb' h => lex_of_code (hb a (inK a ha)).2 (hb b (inK b hb')).2 ((hb a (inK a ha)).1.trans (hb b (inK b hb')).1.symm) h
  · rw [(pm.map (·.2)).mem_iff]
    refine ⟨fun h => ?_, fun h => ?_⟩
    · obtain ⟨q, hq, rfl⟩ := List.mem_map.mp h
      exact List.mem_map_of_mem (sub q hq)
    · obtain ⟨q, hq, rfl⟩ := List.mem_map.mp h
      exact got.all q (by rw [List.take_length]; exact hq)
end
/-- a list or tuple of such data, sorted without repetition -/
@[simp] def vSortSetT (t : VT) : VT := fun ρ Q E => t ρ (fun d => ∃ xs L n, (d = .py (.list xs) ∨ d = .py (.tuple xs)) ∧ xs = L.map tI ∧ (dd L).length < 63 ∧ 1 ≤ n ∧ (∀ l ∈ L, l.length = n ∧ ∀ x ∈ l, 0 ≤ x ∧ x < 64) ∧ Q (.py (.list ((sdT L).map tI)))) E
theorem ve_sortSetT {X : Cx} {b : Bg} {W : WX} {a : Expr} {t : VT} {p p2 q pos : Pos} (hc : X.calm = true) (hu : X.A.units + 64 < cLine) (hg : Gl X "sorted") (hm : X.mg "sorted" = none) (hg2 : Gl X "set") (hm2 : X.mg "set" = none) (ha : VX X b W a t)
    (na : starEach [a] X.env = (false, eval a X.env) :: starEach [] X.env := by rfl) : VE X b W (.Call (.Name "sorted" p) [.Call (.Name "set" p2) [a] [] q] [] pos) (vSortSetT t) :=
  pe_mono (pe_sortSetT hc hu hg hm hg2 hm2 ha na) fun σ H Q ⟨Zo, Z, ρ, Qd, Ed, v, q, l, m⟩ => ⟨Zo, Z, ρ, _, Ed, v, q, fun x H1 d x1 g1 r1 ⟨xs, L, n, ed, ex, lim, hn, hb, q1⟩ => by
    obtain ⟨a, us, rfl, hs, qa⟩ : ∃ a us, x = .ref a ∧ (SqL X.K H1 a us ∨ SqT X.K H1 a us) ∧ Rqs Z H1 us (L.map tI) := by
      subst ex
      rcases ed with rfl | rfl
      · obtain ⟨a, us, rfl, ha, qa⟩ := r1.list
        exact ⟨a, us, rfl, .inl (SqL.of ha), qa⟩
      · obtain ⟨a, o, us, rfl, ha, _, _, qa⟩ := r1.tuple
        exact ⟨a, us, rfl, .inr (SqT.th ha), qa⟩
    obtain ⟨κ, k1, k2⟩ := keyFn qa
    have each : ∀ u ∈ us, ∃ c, u = V.ref c ∧ SqT X.K H1 c ((κ u).map V.int) := fun u hu => by
      cases k2 u hu with
      | tup e1 d1 n1 q1 =>
        have := q1.ints
        subst this
        exact ⟨_, rfl, SqT.th e1⟩
    let f : V → Addr := fun u => match u with | .ref c => c | _ => 0
    have fe : ∀ u ∈ us, u = V.ref (f u) := fun u hu => by obtain ⟨c, rfl, _⟩ := each u hu; rfl
    have e1 : ((us.map fun u => (f u, κ u)).map fun p => V.ref p.1) = us := by
      rw [List.map_map]
      conv => rhs; rw [← List.map_id us]
      exact List.map_congr_left fun u hu => (fe u hu).symm
    have e2 : (us.map fun u => (f u, κ u)).map (·.2) = L := by rw [List.map_map]; exact k1
    have inL : ∀ p ∈ us.map fun u => (f u, κ u), ∃ u ∈ us, p = (f u, κ u) := fun p hp => by
      obtain ⟨u, hu, rfl⟩ := List.mem_map.mp hp; exact ⟨u, hu, rfl⟩
    have tup : ∀ p ∈ us.map fun u => (f u, κ u), SqT X.K H1 p.1 (p.2.map V.int) := fun p hp => by
      obtain ⟨u, hu, rfl⟩ := inL p hp
      obtain ⟨c, rfl, h⟩ := each u hu
      exact h
    have ml : ∀ p ∈ us.map fun u => (f u, κ u), p.2 ∈ L := fun p hp => by rw [← e2]; exact List.mem_map_of_mem hp
    refine ⟨a, us.map fun u => (f u, κ u), n, rfl, by rw [e1]; exact hs, tup, fun M hM nd => ?_, hn, fun p hp => ⟨(hb _ (ml p hp)).1, (hb _ (ml p hp)).2⟩, fun L' p h1 h2 hp => ?_⟩
    · have := dd_le (L := L) nd fun x hx => by
        obtain ⟨q, hq, rfl⟩ := List.mem_map.mp hx
        exact ml q (hM q hq)
      rw [List.length_map] at this
      omega
    · rw [e2] at h1
      refine l _ _ (.py (.list ((sdT L).map tI))) (x1.trans (Ex.new hp)) (Bg.new g1 hp) (Rq.lst upd_same ((v.ex x1 g1).fresh hp) ?_) q1
      rw [← h1, List.map_map]
      have : Rqs Z H1 (L'.map fun q => V.ref q.1) (L'.map fun q => tI q.2) := by
        clear h1
        induction L' with
        | nil => exact .nil
        | cons q L' ih =>
          obtain ⟨u, hu, e⟩ := inL q (h2 q List.mem_cons_self)
          refine .cons ?_ (ih fun z hz => h2 z (List.mem_cons_of_mem _ hz))
          subst e
          have q := k2 u hu
          show Rq Z H1 (V.ref (f u)) (tI (κ u))
          rw [← fe u hu]
          exact q
      exact this.mono (fun a z => .inl z) fun a o e _ => (upd_ne fun w => by rw [w, hp] at e; cases e).trans e, m⟩
end VL
set_option Elab.async false
set_option linter.all false
set_option maxRecDepth 100000
set_option maxHeartbeats 4000000
namespace LawP
open PySem PySem.Spec PyProof.Rows L2 VL
def t_require_short : VS :=
  (sIf (vTst (vBin gGt (vCal gLen (vCons (vBor 0) vNil)) (vC (.py (.int 10)))))
  (sRaise1 "TooLarge" "limit" (vC (.py (.int 10))))
  sNext)
def t_choices (S_mates : SV) : VS :=
  (sSeq (sSet 1 (vLst (vCons (vTup vNil) vNil)))
  (sSeq (sFor (iEn (vCons (vCall S_mates (vCons (vVar 0) vNil)) vNil)) (tgTup 2 (tgCons (tgName 2) (tgCons (tgName 3) tgNil)))
  (sIf (vTst (vBin (gIsN true) (vBor 3) (vC (.py .none))))
  (sSet 1 (vBin gAdd (vBor 1) (vLc [4] (iS (vBor 1)) (tgName 4) wYes (vTup (vStar (vVar 4) (vCons (vVar 2) vNil))))))
  sNext))
  (sRet (vVar 1))))
def t_possible_orders (S_require_short : SV) (S_choices : SV) (S_order_of_joiners : SV) : VS :=
  (sSeq (sExpr (vCall S_require_short (vCons (vVar 0) vNil)))
  (sSeq (sSet 1 (vLc [2] (iS (vCall S_choices (vCons (vVar 0) vNil))) (tgName 2) wYes (vCall S_order_of_joiners (vCons (vVar 0) (vCons (vVar 2) vNil)))))
  (sRet (vCal gTuple (vCons (vSortSetT (vLc [3] (iS (vBor 1)) (tgName 3) (vTst (vBin (gIsN true) (vBor 3) (vC (.py .none)))) (vVar 3))) vNil)))))
end LawP
set_option Elab.async false
set_option linter.all false
set_option maxRecDepth 100000
set_option maxHeartbeats 4000000
namespace LawP
open PySem PySem.Spec PyProof.Rows L2 VL
/-! M48: joiners whose demands can be met make a history -/
section
variable {row : List Int} {J : Nat → Bool}
theorem jO_filter {a : Nat} : ∀ d, (jO row J (a + d)).filter (fun k => decide (k < a)) = jO row J a
  | 0 => by
    rw [Nat.add_zero, List.filter_eq_self]
    intro k hk
    exact decide_eq_true (jO_mem.mp hk)
  | d + 1 => by
    rw [← Nat.add_assoc, jO_succ, insAt_filter _ _ _ _ (by simp), jO_filter d]
theorem jO_filter' {a n : Nat} (h : a ≤ n) : (jO row J n).filter (fun k => decide (k < a)) = jO row J a := by
  have := jO_filter (row := row) (J := J) (a := a) (n - a)
  rwa [Nat.add_sub_cancel' h] at this
theorem maxTo_up (f : Nat → Nat) {i j : Nat} (h : i ≤ j) : maxTo f i ≤ maxTo f j := by
  obtain ⟨k, h1, h2⟩ := maxTo_mem f i
  rw [h2]
  exact maxTo_ge f (by omega)
theorem idx_take {l : List Nat} {x m : Nat} (hx : x ∈ l) : l.idxOf x < m ↔ x ∈ l.take m := by
  have e : l = l.take m ++ l.drop m := (List.take_append_drop m l).symm
  constructor
  · intro h
    refine Decidable.byContradiction fun n => ?_
    rw [e, List.idxOf_append, if_neg n, List.length_take] at h
    have hd : x ∈ l.drop m := by
      rw [e] at hx
      rcases List.mem_append.mp hx with z | z
      · exact absurd z n
      · exact z
    have := List.length_pos_of_mem hd
    rw [List.length_drop] at this
    omega
  · intro h
    rw [e, List.idxOf_append, if_pos h]
    have := List.idxOf_lt_length_of_mem h
    rw [List.length_take] at this
    omega
theorem idx_ne {t y : Nat} {T : List Nat} (h : t ≠ y) : (t :: T).idxOf y = T.idxOf y + 1 := by
  rw [List.idxOf_cons]
  have : (t == y) = false := by simpa using h
  rw [this]
  rfl
theorem idx_filter {p : Nat → Bool} {x y : Nat} (px : p x = true) (py : p y = true) : ∀ {T : List Nat}, x ∈ T → (T.filter p).idxOf x < (T.filter p).idxOf y → T.idxOf x < T.idxOf y
  | [], h, _ => by cases h
  | t :: T, h, hl => by
    by_cases e1 : t = x
    · subst e1
      rw [List.idxOf_cons_self]
      by_cases e2 : t = y
      · subst e2; omega
      · rw [idx_ne e2]; omega
    · by_cases e2 : t = y
      · subst e2
        rw [List.filter_cons_of_pos py, List.idxOf_cons_self] at hl
        omega
      · have hx : x ∈ T := by rcases List.mem_cons.mp h with z | z; exact absurd z.symm e1; exact z
        rw [idx_ne e1, idx_ne e2]
        by_cases c : p t = true
        · rw [List.filter_cons_of_pos c, idx_ne e1, idx_ne e2] at hl
          have := idx_filter px py hx (by omega)
          omega
        · rw [List.filter_cons_of_neg c] at hl
          have := idx_filter px py hx hl
          omega
/-- a joiner stands behind the mate -/
theorem jO_behind {k m n : Nat} (hJ : J k = true) (hm : mateOf row k = some m) (hk : k < n) : (jO row J n).idxOf m < (jO row J n).idxOf k := by
  have mk := (mateOf_lt hm).1
  refine idx_filter (p := fun x => decide (x < k + 1)) (by simp; omega) (by simp) (jO_mem.mpr (by omega)) ?_
  rw [jO_filter' (by omega : k + 1 ≤ n), jO_succ]
  have hmm : m ∈ jO row J k := jO_mem.mpr mk
  have hi := List.idxOf_lt_length_of_mem hmm
  unfold jPl
  rw [if_pos hJ, hm]
  simp only
  have ht : m ∈ (jO row J k).take ((jO row J k).idxOf m + 1) := (idx_take hmm).mp (by omega)
  have hn : k ∉ (jO row J k).take ((jO row J k).idxOf m + 1) := fun z => by have := jO_mem.mp (List.mem_of_mem_take z); omega
  unfold insAt
  rw [List.idxOf_append, if_pos ht, List.idxOf_append, if_neg hn, List.idxOf_cons_self]
  have := List.idxOf_lt_length_of_mem ht
  omega
/-- the counts -/
def cJ (row : List Int) (J : Nat → Bool) (k : Nat) : Nat := maxTo (jLow row J) k
theorem cJ_pos (h : jOk row J) {i j : Nat} (hij : i ≤ j) (hj : j < row.length) : cJ row J i ≤ (jO row J row.length).idxOf j := by
  obtain ⟨a, h1, h2⟩ := maxTo_mem (jLow row J) i
  have h3 := jOk_iff.mp h a j (by omega) hj
  have h4 : jHigh row J j ≤ (jO row J row.length).idxOf j := by
    unfold jHigh
    by_cases c : J j = true
    · rw [if_pos c]
      cases hm : mateOf row j with
      | none => exact Nat.le_refl _
      | some m => exact Nat.le_of_lt (jO_behind c hm hj)
    · rw [if_neg c]; exact Nat.le_refl _
  unfold cJ
  omega
theorem cJ_le (row : List Int) (J : Nat → Bool) (h : jOk row J) {k : Nat} (hk : k < row.length) : cJ row J k ≤ row.length := by
  have := cJ_pos h (Nat.le_refl k) hk
  have := List.idxOf_lt_length_of_mem (jO_mem (row := row) (J := J).mpr hk)
  rw [jO_len] at this
  omega
theorem cJ_take (h : jOk row J) {k : Nat} (hk : k < row.length) : (jO row J row.length).take (cJ row J k) = (jO row J k).take (cJ row J k) := by
  have hlt : ∀ x ∈ (jO row J row.length).take (cJ row J k), x < k := fun x hx => by
    have hx' := List.mem_of_mem_take hx
    have hxn := jO_mem.mp hx'
    have := (idx_take hx').mpr hx
    refine Decidable.byContradiction fun c => ?_
    have := cJ_pos h (show k ≤ x by omega) hxn
    omega
  have e := jO_filter' (row := row) (J := J) (Nat.le_of_lt hk)
  rw [← List.take_append_drop (cJ row J k) (jO row J row.length), List.filter_append, List.filter_eq_self.mpr (fun x hx => decide_eq_true (hlt x hx))] at e
  have hl : ((jO row J row.length).take (cJ row J k)).length = cJ row J k := by
    rw [List.length_take, jO_len]
    have := cJ_le row J h hk
    omega
  rw [← e, List.take_append_of_le_length (by omega)]
  exact (List.take_of_length_le (by omega)).symm
theorem cJ_k (h : jOk row J) {k : Nat} (hk : k < row.length) : cJ row J k ≤ k := by
  have e := congrArg List.length (cJ_take h hk)
  rw [List.length_take, List.length_take, jO_len, jO_len] at e
  have := cJ_le row J h hk
  omega
theorem cJ_iff (h : jOk row J) {k x : Nat} (hk : k < row.length) (hx : x < k) : (jO row J k).idxOf x < cJ row J k ↔ (jO row J row.length).idxOf x < cJ row J k := by
  rw [idx_take (jO_mem.mpr hx), idx_take (jO_mem.mpr (by omega)), cJ_take h hk]
theorem cJ_join (h : jOk row J) (hJ : ∀ k, J k = true → ∃ m, mateOf row k = some m) : ∀ (a k : Nat), k < a → a ≤ row.length → J k = jnB row (cJ row J) k
  | 0, k, hk, _ => by omega
  | a + 1, k, hk, ha => by
    by_cases c : k < a
    · exact cJ_join h hJ a k c (by omega)
    · obtain rfl : k = a := by omega
      have ih := cJ_join h hJ k
      have eq := jO_tq (row := row) (J := J) (c := cJ row J) (n := k) (fun i hi => ih i hi (by omega)) k (Nat.le_refl k)
      unfold jnB
      rw [← eq]
      cases hm : mateOf row k with
      | none =>
        cases hk : J k with
        | false => rfl
        | true => obtain ⟨m, e⟩ := hJ k hk; rw [hm] at e; cases e
      | some m =>
        have mk := (mateOf_lt hm).1
        have hi := cJ_iff h (show k < row.length by omega) mk
        simp only
        cases hk : J k with
        | true =>
          have h1 : cJ row J k ≤ (jO row J row.length).idxOf m := by
            obtain ⟨b, h1, h2⟩ := maxTo_mem (jLow row J) k
            have h3 := jOk_iff.mp h b k (by omega) (by omega)
            unfold jHigh at h3
            rw [if_pos hk, hm] at h3
            unfold cJ
            rw [h2]
            exact h3
          symm
          rw [decide_eq_true_iff]
          omega
        | false =>
          have h1 := maxTo_ge (jLow row J) (Nat.le_refl k)
          have h2 : jLow row J k = (jO row J row.length).idxOf m + 1 := by
            unfold jLow
            rw [hm]
            simp only
            rw [if_neg (by rw [hk]; decide)]
          have h3 : cJ row J k = maxTo (jLow row J) k := rfl
          symm
          rw [decide_eq_false_iff_not]
          omega
/-- the history -/
theorem jOk_hist (h : jOk row J) (hJ : ∀ k, J k = true → k < row.length ∧ ∃ m, mateOf row k = some m) : ∃ w, HistW row.length w ∧ joinsL row 0 [] w = (List.range row.length).filter J := by
  have fn : ∀ k, k < row.length → fnOf ((List.range row.length).map (cJ row J)) k = cJ row J k := fun k hk => by
    rw [fnOf_get (by simpa using hk)]
    simp
  have ok : CntOk row.length ((List.range row.length).map (cJ row J)) := ⟨by simp, fun i j hij hj => by rw [fn i (by omega), fn j hj]; exact maxTo_up _ hij, fun i hi => by rw [fn i hi]; exact cJ_k h hi⟩
  refine ⟨_, ok.hist, ?_⟩
  rw [joins_of ok.hist, ok.cnts]
  refine List.filter_congr fun k hk => ?_
  have hk := List.mem_range.mp hk
  have e1 := cJ_join h (fun k hk => (hJ k hk).2) row.length k hk (Nat.le_refl _)
  have e2 : ∀ a, a ≤ row.length → tq row (fnOf ((List.range row.length).map (cJ row J))) a = tq row (cJ row J) a := by
    intro a
    induction a with
    | zero => intro _; rfl
    | succ a ih =>
      intro ha
      rw [tq_succ, tq_succ, ih (by omega), fn a (by omega)]
  rw [e1]
  unfold jnB
  rw [e2 k (by omega), fn k hk]
end
end LawP
set_option Elab.async false
set_option linter.all false
set_option maxRecDepth 100000
set_option maxHeartbeats 4000000
namespace LawP
open PySem PySem.Spec PyProof.Rows L2 VL
/-! M50: at most ten persons have fewer than 63 possible orders -/
/-- one more person of a group whose last one was m: the orders, each with a bound of those who are left -/
def gro (q : Nat) (m : Option Nat) (x : List Nat × Nat) : List (List Nat × Nat) := match m with
  | none => [(x.1 ++ [q], x.2)]
  | some m => if x.1.idxOf m + 1 = x.1.length then [(x.1 ++ [q], x.2)]
    else if x.2 ≤ x.1.idxOf m then [(insAt x.1 (x.1.idxOf m + 1) q, x.2), (x.1 ++ [q], x.1.idxOf m + 1)] else [(x.1 ++ [q], x.2)]
def groL (c : List (List Nat × Nat)) (q : Nat) (m : Option Nat) : List (List Nat × Nat) := c.flatMap (gro q m)
def canR (row : List Int) : Nat → List (List Nat × Nat)
  | 0 => [([], 0)]
  | a + 1 => groL (canR row a) a (mateOf row a)
theorem gro_len (q : Nat) (m : Option Nat) (x : List Nat × Nat) : (gro q m x).length ≤ 2 := by
  unfold gro
  split
  · simp
  · split
    · simp
    · split <;> simp
theorem groL_len (c : List (List Nat × Nat)) (q : Nat) (m : Option Nat) : (groL c q m).length ≤ 2 * c.length := by
  unfold groL
  induction c with
  | nil => simp
  | cons x c ih =>
    have := gro_len q m x
    rw [List.flatMap_cons, List.length_append, List.length_cons]
    omega
def chk : Nat → Nat → List Nat → List (List Nat × Nat) → Bool
  | 0, _, _, c => decide (c.length ≤ 62)
  | k + 1, q, F, c => decide (c.length * 2 ^ (k + 1) ≤ 62) || (chk k (q + 1) (F ++ [q]) (groL c q none) && F.all fun m => chk k (q + 1) (F.erase m ++ [q]) (groL c q (some m)))
theorem chk_ten : chk 10 0 [] [([], 0)] = true := by decide +kernel
theorem can_grow (row : List Int) (a : Nat) : ∀ d, (canR row (a + d)).length ≤ (canR row a).length * 2 ^ d
  | 0 => by simp
  | d + 1 => by
    have h := can_grow row a d
    have := groL_len (canR row (a + d)) (a + d) (mateOf row (a + d))
    rw [← Nat.add_assoc]
    show (groL (canR row (a + d)) (a + d) (mateOf row (a + d))).length ≤ _
    rw [Nat.pow_succ, ← Nat.mul_assoc]
    omega
theorem chk_ok (row : List Int) : ∀ (k a : Nat) (F : List Nat), chk k a F (canR row a) = true → (∀ b m, a ≤ b → m < a → mateOf row b = some m → m ∈ F) → ∀ d, d ≤ k → (canR row (a + d)).length ≤ 62
  | 0, a, F, h, _, d, hd => by
    obtain rfl : d = 0 := by omega
    simpa [chk] using h
  | k + 1, a, F, h, hF, d, hd => by
    unfold chk at h
    rw [Bool.or_eq_true, decide_eq_true_eq] at h
    rcases h with h | h
    · have h1 := can_grow row a d
      have h2 : 2 ^ d ≤ 2 ^ (k + 1) := Nat.pow_le_pow_right (by omega) hd
      have h3 := Nat.mul_le_mul_left (canR row a).length h2
      omega
    · cases d with
      | zero =>
        have h1 : (canR row a).length ≤ (canR row (a + 1)).length := by
          show _ ≤ (groL (canR row a) a (mateOf row a)).length
          unfold groL
          generalize canR row a = c
          induction c with
          | nil => simp
          | cons x c ih =>
            rw [List.flatMap_cons, List.length_append, List.length_cons]
            have : 1 ≤ (gro a (mateOf row a) x).length := by
              unfold gro
              split
              · simp
              · split
                · simp
                · split <;> simp
            omega
        have h2 : (canR row (a + 1 + 0)).length ≤ 62 := ?_
        exact Nat.le_trans h1 h2
        rw [Bool.and_eq_true] at h
        cases hm : mateOf row a with
        | none =>
          refine chk_ok row k (a + 1) (F ++ [a]) (by show chk _ _ _ (groL _ _ _) = _; rw [hm]; exact h.1) (fun b m hb hma hbm => ?_) 0 (Nat.zero_le _)
          rcases Nat.lt_or_eq_of_le (Nat.le_of_lt_succ hma) with z | z
          · exact List.mem_append_left _ (hF b m (by omega) z hbm)
          · rw [z]; simp
        | some x =>
          have hx := hF a x (Nat.le_refl _) (mateOf_lt hm).1 hm
          refine chk_ok row k (a + 1) (F.erase x ++ [a]) (by show chk _ _ _ (groL _ _ _) = _; rw [hm]; exact List.all_eq_true.mp h.2 x hx) (fun b m hb hma hbm => ?_) 0 (Nat.zero_le _)
          rcases Nat.lt_or_eq_of_le (Nat.le_of_lt_succ hma) with z | z
          · refine List.mem_append_left _ ((List.mem_erase_of_ne fun e => ?_).mpr (hF b m (by omega) z hbm))
            subst e
            have := mate_uniq hm hbm
            omega
          · rw [z]; simp
      | succ d =>
        rw [Bool.and_eq_true] at h
        rw [show a + (d + 1) = a + 1 + d by omega]
        cases hm : mateOf row a with
        | none =>
          refine chk_ok row k (a + 1) (F ++ [a]) (by show chk _ _ _ (groL _ _ _) = _; rw [hm]; exact h.1) (fun b m hb hma hbm => ?_) d (by omega)
          rcases Nat.lt_or_eq_of_le (Nat.le_of_lt_succ hma) with z | z
          · exact List.mem_append_left _ (hF b m (by omega) z hbm)
          · rw [z]; simp
        | some x =>
          have hx := hF a x (Nat.le_refl _) (mateOf_lt hm).1 hm
          refine chk_ok row k (a + 1) (F.erase x ++ [a]) (by show chk _ _ _ (groL _ _ _) = _; rw [hm]; exact List.all_eq_true.mp h.2 x hx) (fun b m hb hma hbm => ?_) d (by omega)
          rcases Nat.lt_or_eq_of_le (Nat.le_of_lt_succ hma) with z | z
          · refine List.mem_append_left _ ((List.mem_erase_of_ne fun e => ?_).mpr (hF b m (by omega) z hbm))
            subst e
            have := mate_uniq hm hbm
            omega
          · rw [z]; simp
theorem can_ten (row : List Int) {n : Nat} (h : n ≤ 10) : (canR row n).length ≤ 62 := by
  have := chk_ok row 10 0 [] chk_ten (fun b m _ h => absurd h (Nat.not_lt_zero _)) n h
  rwa [Nat.zero_add] at this
section
variable {row : List Int} {J : Nat → Bool}
/-- the places keep their order -/
theorem idx_back {a n x y : Nat} (h : a ≤ n) (hx : x < a) (hy : y < a) (hl : (jO row J n).idxOf x < (jO row J n).idxOf y) : (jO row J a).idxOf x < (jO row J a).idxOf y := by
  rcases Nat.lt_trichotomy ((jO row J a).idxOf x) ((jO row J a).idxOf y) with c | c | c
  · exact c
  · have hx' : x ∈ jO row J a := jO_mem.mpr hx
    have hy' : y ∈ jO row J a := jO_mem.mpr hy
    have : x = y := by
      have e1 := List.getElem_idxOf (List.idxOf_lt_length_of_mem hx')
      have e2 := List.getElem_idxOf (List.idxOf_lt_length_of_mem hy')
      rw [← e1, ← e2]
      simp only [c]
    subst this
    omega
  · have e := jO_filter' (row := row) (J := J) h
    have := idx_filter (p := fun k => decide (k < a)) (x := y) (y := x) (T := jO row J n) (by simpa using hy) (by simpa using hx) (jO_mem.mpr (by omega)) (by rw [e]; exact c)
    omega
theorem idx_ins_lt {T : List Nat} {p q x : Nat} (hx : x ∈ T) (hq : q ∉ T) (hp : T.idxOf x < p) : (insAt T p q).idxOf x = T.idxOf x := by
  unfold insAt
  have h1 : x ∈ T.take p := (idx_take hx).mp hp
  rw [List.idxOf_append, if_pos h1]
  conv => rhs; rw [← List.take_append_drop p T, List.idxOf_append, if_pos h1]
theorem idx_snoc {T : List Nat} {q x : Nat} (hx : x ∈ T) : (T ++ [q]).idxOf x = T.idxOf x := by rw [List.idxOf_append, if_pos hx]
/-- each order of joiners whose demands can be met is among them -/
theorem can_mem (hok : jOk row J) (hJ : ∀ k, J k = true → ∃ m, mateOf row k = some m) : ∀ a, a ≤ row.length → ∃ L, (jO row J a, L) ∈ canR row a ∧ (L = 0 ∨ ∃ p x, p < a ∧ J p = false ∧ mateOf row p = some x ∧ L ≤ (jO row J a).idxOf x + 1)
  | 0, _ => ⟨0, by simp [canR, jO], .inl rfl⟩
  | a + 1, ha => by
    obtain ⟨L, hm, hL⟩ := can_mem hok hJ a (by omega)
    have qn : a ∉ jO row J a := fun h => Nat.lt_irrefl _ (jO_mem.mp h)
    have len := jO_len row J a
    have memG : ∀ y, y ∈ gro a (mateOf row a) (jO row J a, L) → y ∈ canR row (a + 1) := fun y hy => List.mem_flatMap.mpr ⟨_, hm, hy⟩
    have keepS : L = 0 ∨ ∃ p x, p < a + 1 ∧ J p = false ∧ mateOf row p = some x ∧ L ≤ (jO row J a ++ [a]).idxOf x + 1 := by
      rcases hL with h | ⟨p, x, h1, h2, h3, h4⟩
      · exact .inl h
      · refine .inr ⟨p, x, by omega, h2, h3, ?_⟩
        rw [idx_snoc (jO_mem.mpr (by have := (mateOf_lt h3).1; omega))]
        exact h4
    have endO : insAt (jO row J a) a a = jO row J a ++ [a] := by
      have := insAt_end (jO row J a) a
      rwa [len] at this
    rw [jO_succ]
    cases hmt : mateOf row a with
    | none =>
      have e : jPl row J (jO row J a) a = a := by unfold jPl; rw [hmt]; simp
      rw [e, endO]
      exact ⟨L, memG _ (by rw [hmt]; simp [gro]), keepS⟩
    | some m =>
      have hma := (mateOf_lt hmt).1
      have mm : m ∈ jO row J a := jO_mem.mpr hma
      have ix := List.idxOf_lt_length_of_mem mm
      rw [len] at ix
      by_cases last : (jO row J a).idxOf m + 1 = a
      · have e : jPl row J (jO row J a) a = a := by unfold jPl; rw [hmt]; simp only; split <;> omega
        rw [e, endO]
        exact ⟨L, memG _ (by rw [hmt]; simp [gro, len, last]), keepS⟩
      · by_cases j : J a = true
        · have e : jPl row J (jO row J a) a = (jO row J a).idxOf m + 1 := by unfold jPl; rw [if_pos j, hmt]
          have le : L ≤ (jO row J a).idxOf m := by
            rcases hL with h | ⟨p, x, h1, h2, h3, h4⟩
            · omega
            · have hxa : x < a := by have := (mateOf_lt h3).1; omega
              have lo := jOk_iff.mp hok p a (by omega) (by omega)
              unfold jLow jHigh at lo
              rw [h3, hmt, if_pos j] at lo
              simp only [h2, if_false] at lo
              have := idx_back (row := row) (J := J) (a := a) (n := row.length) (by omega) hxa hma (by simp at lo; omega)
              omega
          rw [e]
          refine ⟨L, memG _ (by rw [hmt]; simp [gro, len, last, le]), ?_⟩
          rcases hL with h | ⟨p, x, h1, h2, h3, h4⟩
          · exact .inl h
          · by_cases z : L = 0
            · exact .inl z
            · refine .inr ⟨p, x, by omega, h2, h3, ?_⟩
              have hxa : x < a := by have := (mateOf_lt h3).1; omega
              have lo := jOk_iff.mp hok p a (by omega) (by omega)
              unfold jLow jHigh at lo
              rw [h3, hmt, if_pos j] at lo
              simp only [h2, if_false] at lo
              have := idx_back (row := row) (J := J) (a := a) (n := row.length) (by omega) hxa hma (by simp at lo; omega)
              rw [idx_ins_lt (jO_mem.mpr hxa) qn (by omega)]
              exact h4
        · have j' : J a = false := by simpa using j
          have e : jPl row J (jO row J a) a = a := by unfold jPl; rw [if_neg j]
          rw [e, endO]
          by_cases le : L ≤ (jO row J a).idxOf m
          · refine ⟨(jO row J a).idxOf m + 1, memG _ (by rw [hmt]; simp [gro, len, last, le]), .inr ⟨a, m, by omega, j', hmt, ?_⟩⟩
            rw [idx_snoc mm]
            exact Nat.le_refl _
          · exact ⟨L, memG _ (by rw [hmt]; simp [gro, len, last, le]), keepS⟩
end
/-- orders as tuples of ints -/
def oI (ms : List Nat) : List Int := ms.map fun k : Nat => (k : Int)
theorem tI_oI (ms : List Nat) : tI (oI ms) = tN ms := by simp [oI, tI, tN, pN]
theorem few_orders {row : List Int} (h : row.length ≤ 10) {L : List (List Int)} (hL : ∀ l ∈ L, ∃ J : Nat → Bool, jOk row J ∧ (∀ k, J k = true → ∃ m, mateOf row k = some m) ∧ l = oI (jO row J row.length)) : (dd L).length < 63 := by
  have h1 : (dd L).length ≤ ((canR row row.length).map fun x => oI x.1).length := VL.nodup_le (dd_nodup L) fun l hl => by
    obtain ⟨J, ok, hJ, rfl⟩ := hL l (dd_mem.mp hl)
    obtain ⟨z, hz, _⟩ := can_mem ok hJ row.length (Nat.le_refl _)
    exact List.mem_map.mpr ⟨_, hz, rfl⟩
  have := can_ten row h
  rw [List.length_map] at h1
  omega
end LawP
set_option Elab.async false
set_option linter.all false
set_option maxRecDepth 100000
set_option maxHeartbeats 4000000
namespace LawP
open PySem PySem.Spec PyProof.Rows L2 VL
/-! M51: all sets of joiners; the possible orders, ascending -/
def choL (row : List Int) : Nat → List (List Nat)
  | 0 => [[]]
  | a + 1 => if mateB row a = true then choL row a ++ (choL row a).map (· ++ [a]) else choL row a
theorem cho_ok (row : List Int) : ∀ (a : Nat) {js : List Nat}, js ∈ choL row a → (∀ k ∈ js, k < a ∧ mateB row k = true) ∧ js.length ≤ a
  | 0, js, h => by
    rw [List.mem_singleton.mp h]
    exact ⟨fun k hk => absurd hk (by simp), Nat.zero_le _⟩
  | a + 1, js, h => by
    have base : ∀ {ks : List Nat}, ks ∈ choL row a → (∀ k ∈ ks, k < a + 1 ∧ mateB row k = true) ∧ ks.length ≤ a := fun hk => by
      obtain ⟨h1, h2⟩ := cho_ok row a hk
      exact ⟨fun k q => ⟨by have := (h1 k q).1; omega, (h1 k q).2⟩, h2⟩
    unfold choL at h
    split at h
    · rename_i c
      rcases List.mem_append.mp h with h | h
      · exact ⟨(base h).1, by have := (base h).2; omega⟩
      · obtain ⟨ks, hk, rfl⟩ := List.mem_map.mp h
        obtain ⟨h1, h2⟩ := base hk
        refine ⟨fun k q => ?_, by simp; exact h2⟩
        rcases List.mem_append.mp q with q | q
        · exact h1 k q
        · rw [List.mem_singleton.mp q]; exact ⟨by omega, c⟩
    · exact ⟨(base h).1, by have := (base h).2; omega⟩
theorem cho_len (row : List Int) : ∀ a, (choL row a).length ≤ 2 ^ a
  | 0 => by simp [choL]
  | a + 1 => by
    have := cho_len row a
    rw [Nat.pow_succ]
    unfold choL
    split
    · rw [List.length_append, List.length_map]; omega
    · omega
theorem cho_all {row : List Int} {J : Nat → Bool} (hJ : ∀ k, J k = true → mateB row k = true) : ∀ a, ∃ js ∈ choL row a, ∀ k, k < a → inL js k = J k
  | 0 => ⟨[], by simp [choL], fun k h => absurd h (Nat.not_lt_zero _)⟩
  | a + 1 => by
    obtain ⟨js, h1, h2⟩ := cho_all hJ a
    have lt := (cho_ok row a h1).1
    have na : a ∉ js := fun h => Nat.lt_irrefl _ (lt a h).1
    cases c : J a with
    | true =>
      refine ⟨js ++ [a], ?_, fun k hk => ?_⟩
      · unfold choL
        rw [if_pos (hJ a c)]
        exact List.mem_append_right _ (List.mem_map.mpr ⟨js, h1, rfl⟩)
      · by_cases e : k = a
        · subst e
          rw [c, inL_iff]
          simp
        · rw [← h2 k (by omega)]
          unfold inL
          simp [e]
    | false =>
      refine ⟨js, ?_, fun k hk => ?_⟩
      · unfold choL
        split
        · exact List.mem_append_left _ h1
        · exact h1
      · by_cases e : k = a
        · subst e
          rw [c]
          unfold inL
          simpa using na
        · exact h2 k (by omega)
theorem jO_congr {row : List Int} {J J' : Nat → Bool} : ∀ {a : Nat}, (∀ k, k < a → J k = J' k) → jO row J a = jO row J' a
  | 0, _ => rfl
  | a + 1, h => by
    have e := jO_congr (row := row) (a := a) fun k hk => h k (by omega)
    rw [jO_succ, jO_succ, e]
    unfold jPl
    rw [h a (by omega)]
theorem jOk_congr {row : List Int} {J J' : Nat → Bool} (h : ∀ k, k < row.length → J k = J' k) (hk : jOk row J) : jOk row J' := by
  have e := jO_congr (row := row) h
  refine jOk_iff.mpr fun i j hij hj => ?_
  have := jOk_iff.mp hk i j hij hj
  unfold jLow jHigh at this ⊢
  rw [← e, ← h i (by omega), ← h j hj]
  exact this
/-- the orders of all joiners whose demands can be met -/
def ordJ (row : List Int) : List (List Int) := ((choL row row.length).filter fun js => decide (jOk row (inL js))).map fun js => oI (jO row (inL js) row.length)
def posO (row : List Int) : List (List Int) := sdT (ordJ row)
theorem mateB_ex {row : List Int} {k : Nat} (h : mateB row k = true) : ∃ m, mateOf row k = some m := Option.isSome_iff_exists.mp h
theorem ordJ_of {row : List Int} {l : List Int} (h : l ∈ ordJ row) : ∃ js, js ∈ choL row row.length ∧ jOk row (inL js) ∧ l = oI (jO row (inL js) row.length) := by
  obtain ⟨js, h1, rfl⟩ := List.mem_map.mp h
  obtain ⟨h2, h3⟩ := List.mem_filter.mp h1
  exact ⟨js, h2, of_decide_eq_true h3, rfl⟩
theorem few_ordJ {row : List Int} (h : row.length ≤ 10) : (dd (ordJ row)).length < 63 := few_orders h fun l hl => by
  obtain ⟨js, h1, h2, h3⟩ := ordJ_of hl
  exact ⟨inL js, h2, fun k hk => mateB_ex ((cho_ok row _ h1).1 k (inL_iff.mp hk)).2, h3⟩
/-- an order of joiners is the order of a history, and the other way round -/
theorem join_hist {row : List Int} {J : Nat → Bool} (ok : jOk row J) (hJ : ∀ k, J k = true → k < row.length ∧ mateB row k = true) : ∃ w, HistW row.length w ∧ ordL row w = jO row J row.length := by
  obtain ⟨w, hw, hj⟩ := jOk_hist ok fun k hk => ⟨(hJ k hk).1, mateB_ex (hJ k hk).2⟩
  refine ⟨w, hw, ?_⟩
  rw [← wJ_order hw]
  refine jO_congr fun k hk => ?_
  unfold wJ
  rw [hj, Bool.eq_iff_iff, decide_eq_true_eq, List.mem_filter, List.mem_range]
  exact ⟨fun h => h.2, fun h => ⟨hk, h⟩⟩
theorem posO_mem {row : List Int} {l : List Int} : l ∈ posO row ↔ ∃ ms, l = oI ms ∧ ms.Perm (List.range row.length) ∧ Poss row ms := by
  unfold posO
  rw [sdT_mem]
  constructor
  · intro h
    obtain ⟨js, h1, h2, rfl⟩ := ordJ_of h
    obtain ⟨w, hw, e⟩ := join_hist h2 fun k hk => (cho_ok row _ h1).1 k (inL_iff.mp hk)
    have hp := jO_perm row (inL js) row.length
    exact ⟨_, rfl, hp, (poss_iff hp).mpr ⟨w, hw, e⟩⟩
  · rintro ⟨ms, rfl, hp, hq⟩
    obtain ⟨w, hw, rfl⟩ := (poss_iff hp).mp hq
    obtain ⟨js, h1, h2⟩ := cho_all (row := row) (J := wJ row w) (fun k hk => by
      obtain ⟨_, m, hm⟩ := joins_lt hw (of_decide_eq_true hk)
      unfold mateB; rw [hm]; rfl) row.length
    refine List.mem_map.mpr ⟨js, List.mem_filter.mpr ⟨h1, decide_eq_true (jOk_congr (fun k hk => (h2 k hk).symm) (wJ_ok hw))⟩, ?_⟩
    rw [← wJ_order hw]
    exact congrArg oI (jO_congr h2)
theorem oI_bd {ms : List Nat} {n : Nat} (hp : ms.Perm (List.range n)) (h : n ≤ 64) : ∀ x ∈ oI ms, 0 ≤ x ∧ x < 64 := by
  intro x hx
  obtain ⟨k, hk, rfl⟩ := List.mem_map.mp hx
  have := (perm_mem hp).mp hk
  omega
theorem ordJ_bd {row : List Int} (h : row.length ≤ 64) : ∀ l ∈ ordJ row, l.length = row.length ∧ ∀ x ∈ l, 0 ≤ x ∧ x < 64 := by
  intro l hl
  obtain ⟨js, _, _, rfl⟩ := ordJ_of hl
  have hp := jO_perm row (inL js) row.length
  exact ⟨by simp [oI, perm_len hp], oI_bd hp h⟩
theorem posO_few {row : List Int} (h : row.length ≤ 10) : (posO row).length < 63 := by
  unfold posO sdT
  rw [(sortT_perm _).length_eq]
  exact few_ordJ h
/-- the order of arrival is possible -/
theorem poss_id (row : List Int) : Poss row (List.range row.length) := by
  have ok : CntOk row.length (List.range row.length) := ⟨by simp, fun i j hij hj => by
    rw [fnOf_get (by simp; omega), fnOf_get (by simp; omega)]; simpa using hij, fun i hi => by rw [fnOf_get (by simpa using hi)]; simp⟩
  refine (poss_iff (.refl _)).mpr ⟨_, ok.hist, ?_⟩
  rw [ordL_tq ok.hist, ok.cnts]
  have key : ∀ a, a ≤ row.length → tq row (fnOf (List.range row.length)) a = List.range a := by
    intro a
    induction a with
    | zero => intro _; rfl
    | succ a ih =>
      intro ha
      have e := ih (by omega)
      have f : fnOf (List.range row.length) a = a := by rw [fnOf_get (by simp; omega)]; simp
      rw [tq_succ, e, f]
      have t : tpl row a (List.range a) a = a := by
        unfold tpl
        split
        · rename_i m hm
          have h1 := (mateOf_lt hm).1
          have h2 := List.idxOf_lt_length_of_mem (List.mem_range.mpr h1)
          rw [List.length_range] at h2
          rw [if_neg (by omega), List.length_range]
        · rw [List.length_range]
      rw [t]
      have := insAt_end (List.range a) a
      rw [List.length_range] at this
      rw [this, List.range_succ]
  exact key _ (Nat.le_refl _)
theorem id_mem (row : List Int) : oI (List.range row.length) ∈ posO row := posO_mem.mpr ⟨_, rfl, .refl _, poss_id row⟩
theorem posO_pos (row : List Int) : 0 < (posO row).length := List.length_pos_of_mem (id_mem row)
end LawP
set_option Elab.async false
set_option linter.all false
set_option maxRecDepth 100000
set_option maxHeartbeats 4000000
namespace LawP
open PySem PySem.Spec PyProof.Rows L2 VL
/-! LAP: possible orders listed, numbered -/
theorem pys_mapE : ∀ xs : List PyData, pys (xs.map D.py) = some xs
  | [] => rfl
  | x :: xs => by simp [pys, pys_mapE xs]
theorem pys_snocE {α : Type} (f : α → PyData) (xs : List α) (d : PyData) : pys (xs.map (D.py ∘ f) ++ [D.py d]) = some (xs.map f ++ [d]) := by
  have := pys_mapE (xs.map f ++ [d])
  rwa [List.map_append, List.map_map] at this
abbrev tooL : Er := ⟨"TooLarge", [("limit", .int 10)]⟩
@[simp] def S_require_short : SV := fun ds Q E => ∃ row : List Int, ds = [.py (tI row)] ∧ (row.length ≤ 10 → Q (.py .none)) ∧ (10 < row.length → E tooL)
theorem l_require_short : ∀ ds Q E, S_require_short ds Q E → t_require_short (envOf 1 ds) (fin Q E) := by
  rintro ds Q E ⟨row, rfl, q1, q2⟩
  simp [t_require_short]
  by_cases h : row.length ≤ 10
  · rw [if_neg (by omega)]; exact q1 h
  · rw [if_pos (by omega)]; exact q2 (by omega)
@[simp] def S_choices : SV := fun ds Q _ => ∃ row : List Int, ds = [.py (tI row)] ∧ row.length ≤ 10 ∧ Q (.py (.list ((choL row row.length).map tN)))
theorem l_choices : ∀ ds Q E, S_choices ds Q E → t_choices S_mates (envOf 5 ds) (fin Q E) := by
  rintro ds Q E ⟨row, rfl, h1, q⟩
  simp [t_choices, matesP, -forGo]
  refine ⟨by omega, ?_⟩
  rw [matesL_map, enum_range]
  refine for_enc (fun k => PyData.tuple [.int (k : Nat), oN (mateOf row k)]) (fun i ρ => ∃ (x y : VL.Slot), ρ = [.shr (.py (tI row)), .shr (.py (.list ((choL row i).map tN))), x, y, .un]) ⟨_, _, rfl⟩ (fun i k ρ hk iv nx ct hn => ?_) (fun ρ iv => ?_)
  · obtain ⟨x, y, rfl⟩ := iv
    obtain ⟨rfl, hk⟩ := range_get hk
    have le := cho_len row k
    have le2 : (2 : Nat) ^ k ≤ 2 ^ 10 := Nat.pow_le_pow_right (by omega) (by omega)
    have eS : choL row (k + 1) = if mateB row k = true then choL row k ++ (choL row k).map (· ++ [k]) else choL row k := rfl
    have fin1 : ∀ (x y : VL.Slot) (L : List PyData), L = (choL row (k + 1)).map tN → nx [.shr (.py (tI row)), .shr (.py (.list L)), x, y, .un] := fun x y L e => (hn _ ⟨x, y, by rw [e]⟩).1
    cases hm : mateOf row k with
    | none =>
      simp [oN]
      refine fin1 _ _ _ ?_
      rw [eS, if_neg (by simp [mateB, hm])]
    | some m =>
      simp [oN, -lcGo]
      refine lc_encM' tN (fun js => tN (js ++ [k])) (fun i js hj kk h => ?_) (by omega) ?_
      · have lj := (cho_ok row k (List.mem_of_getElem? hj)).2
        simp [lcStep, tN, pys_snocE]
        refine ⟨by omega, ?_⟩
        simpa [tN, pN] using h
      · refine ⟨by simp; omega, ?_⟩
        refine fin1 _ _ _ ?_
        rw [eS, if_pos (by simp [mateB, hm]), List.map_append, List.map_map]
        rfl
  · obtain ⟨x, y, rfl⟩ := iv
    simpa using q
@[simp] def S_possible_orders : SV := fun ds Q E => ∃ row : List Int, ds = [.py (tI row)] ∧ row ≠ [] ∧ row.length ≤ 40 ∧ (row.length ≤ 10 → Q (.py (.tuple ((posO row).map tI)))) ∧ (10 < row.length → E tooL)
theorem l_possible_orders : ∀ ds Q E, S_possible_orders ds Q E → t_possible_orders S_require_short S_choices S_order_of_joiners (envOf 4 ds) (fin Q E) := by
  rintro ds Q E ⟨row, rfl, h0, h1, q1, q2⟩
  simp [t_possible_orders, -lcGo, -S_choices, -S_order_of_joiners]
  refine ⟨fun h => ?_, fun h => q2 h⟩
  have le := cho_len row row.length
  have le2 : (2 : Nat) ^ row.length ≤ 2 ^ 10 := Nat.pow_le_pow_right (by omega) h
  refine ⟨row, rfl, h, ?_⟩
  simp only [List.map_map]
  refine lc_encM' tN (fun js => if jOk row (inL js) then tN (jO row (inL js) row.length) else PyData.none) (fun i js hj kk h => ?_) (by omega) ?_
  · obtain ⟨o1, o2⟩ := cho_ok row _ (List.mem_of_getElem? hj)
    simp [lcStep, -S_order_of_joiners]
    exact ⟨row, js, rfl, h1, by omega, fun k hk => (o1 k hk).2, h⟩
  · simp [-lcGo]
    refine lc_encF' (fun js => if jOk row (inL js) then PyData.tuple (List.map pN (jO row (inL js) row.length)) else PyData.none) (fun js => decide (jOk row (inL js))) (fun js => tN (jO row (inL js) row.length)) (fun i js hj kk k1 k2 => ?_) (by omega) ?_
    · by_cases c : jOk row (inL js)
      · simp [lcStep, c]
        exact k1 (by simpa using c)
      · simp [lcStep, c]
        exact k2 (by simpa using c)
    · refine ⟨_, .inl rfl, ordJ row, ?_, few_ordJ h, row.length, List.length_pos_iff.mpr h0, ordJ_bd (by omega), q1 h⟩
      unfold ordJ
      rw [List.map_map]
      exact List.map_congr_left fun js _ => (tI_oI _).symm
@[simp] def S_possible_at : SV := fun ds Q E => ∃ (row : List Int) (p : PyData), ds = [.py (tI row), .py p] ∧ row ≠ [] ∧ row.length ≤ 40 ∧ (10 < row.length → E tooL) ∧ (row.length ≤ 10 → (isIntJ p 0 (((posO row).length : Int) - 1) = false → E ⟨"NoIndex", [("index", p)]⟩) ∧ ∀ (i : Nat) l, p = .int (i : Int) → (posO row)[i]? = some l → Q (.py (tI l)))
theorem eqv_tI (a b : List Int) : (tI a).eqv (tI b) = decide (a = b) := ints_eqv a b
theorem tI_plain (l : List Int) : (tI l).plain = true := by
  show PyData.plainAll (l.map PyData.int) = true
  induction l with
  | nil => rfl
  | cons x l ih => simpa [PyData.plainAll, PyData.plain] using ih
theorem tI_depth (l : List Int) : (tI l).depth = 1 := by
  have : PyData.depthAll (l.map PyData.int) = 0 := by
    induction l with
    | nil => rfl
    | cons x l ih => simp [PyData.depthAll, PyData.depth, ih]
  show PyData.depthAll (l.map PyData.int) + 1 = 1
  rw [this]
theorem tIs_plain : ∀ L : List (List Int), PyData.plainAll (L.map tI) = true
  | [] => rfl
  | l :: L => by
    rw [List.map_cons]
    show ((tI l).plain && PyData.plainAll (L.map tI)) = true
    rw [tI_plain, tIs_plain L]; rfl
@[simp] def S_possible_index : SV := fun ds Q E => ∃ (row : List Int) (p : PyData), ds = [.py (tI row), .py p] ∧ row ≠ [] ∧ row.length ≤ 40 ∧ (10 < row.length → E tooL) ∧
  (row.length ≤ 10 → (ordB row.length p = false → E ⟨"NoOrder", []⟩) ∧ ∀ ms, p = tN ms → ms.Perm (List.range row.length) → (oI ms ∈ posO row → Q (.py (pN ((posO row).idxOf (oI ms))))) ∧ (oI ms ∉ posO row → E ⟨"Impossible", []⟩))
end LawP
set_option Elab.async false
set_option linter.all false
set_option maxRecDepth 100000
set_option maxHeartbeats 4000000
namespace LawP
open PySem PySem.Spec PyProof.Rows L2 VL
def t_count_possible (S_possible_orders : SV) : VS :=
  (sRet (vCal gLen (vCons (vCall S_possible_orders (vCons (vVar 0) vNil)) vNil)))
end LawP
set_option Elab.async false
set_option linter.all false
set_option maxRecDepth 100000
set_option maxHeartbeats 4000000
namespace LawP
open PySem PySem.Spec PyProof.Rows L2 VL
/-! LAQ: possible orders counted, walked -/
@[simp] def S_count_possible : SV := fun ds Q E => ∃ row : List Int, ds = [.py (tI row)] ∧ row ≠ [] ∧ row.length ≤ 40 ∧ (row.length ≤ 10 → Q (.py (pN (posO row).length))) ∧ (10 < row.length → E tooL)
theorem l_count_possible : ∀ ds Q E, S_count_possible ds Q E → t_count_possible S_possible_orders (envOf 1 ds) (fin Q E) := by
  rintro ds Q E ⟨row, rfl, h0, h1, q1, q2⟩
  simp [t_count_possible]
  refine ⟨h0, h1, fun h => ?_, q2⟩
  simpa [pN] using q1 h
@[simp] def S_each_possible : SZ := fun ds Y Q E => ∃ row : List Int, ds = [.py (tI row)] ∧ row ≠ [] ∧ row.length ≤ 40 ∧ (row.length ≤ 10 → (∀ i d, ((posO row).map tI)[i]? = some d → Y i d) ∧ Q (posO row).length) ∧ (10 < row.length → E tooL)
end LawP
set_option Elab.async false
set_option linter.all false
set_option maxRecDepth 100000
set_option maxHeartbeats 4000000
/-! VL143: try: .. except x: .. (the error is not named) -/
namespace VL
open PySem PySem.Spec PyProof.Rows L2 HT
@[simp] def sTryO (names : List Str) (x : Str) (tb ts : VS) : VS := fun ρ De =>
  tb ρ { De with ex := fun ρ' er => er.n ∈ names ∧ if errSub er.n x = true then ts ρ' { De with ex := fun _ _ => False } else De.ex ρ' er }
end VL
namespace VL
open PySem PySem.Spec PyProof.Rows L2
end VL
namespace VL
open PySem PySem.Spec PyProof.Rows L2
end VL
set_option Elab.async false
set_option linter.all false
set_option maxRecDepth 100000
set_option maxHeartbeats 4000000
namespace LawP
open PySem PySem.Spec PyProof.Rows L2 VL
def t_law_one_right (S_clashes : SV) (S_misplaced : SV) (S_verdict : SV) (S_is_possible : SV) (S_verdict_holds : SV) : VS :=
  (sSeq (sPar [2, 3, 4] (mCons false (vCall S_verdict (vCons (vVar 0) (vCons (vVar 1) vNil))) (mCons false (vCall S_misplaced (vCons (vVar 0) (vCons (vVar 1) vNil))) (mCons false (vCall S_clashes (vCons (vVar 0) (vCons (vVar 1) vNil))) mNil))))
  (sSeq (sIf (wOr (vTst (vBin gNe (vBin gEq (vBin gIx (vBor 2) (vC (.py (.int 0)))) (vC (.py (.str "history")))) (vCall S_is_possible (vCons (vVar 0) (vCons (vVar 1) vNil))))) (vTst (vBin gNe (vCall S_is_possible (vCons (vVar 0) (vCons (vVar 1) vNil))) (vBin gEq (vBin gAdd (vBor 3) (vBor 4)) (vTup vNil)))))
  (sRet (vC (.py (.bool false))))
  sNext)
  (sSeq (sIf (wOr (vTst (vBin (gIsB true) (vCall S_verdict_holds (vCons (vVar 0) (vCons (vVar 1) (vCons (vVar 2) vNil)))) (vC (.py (.bool true))))) (vTst (vBin gNe (vBin gEq (vBin gIx (vBor 2) (vC (.py (.int 0)))) (vC (.py (.str "place")))) (vBin gNe (vBor 3) (vTup vNil)))))
  (sRet (vC (.py (.bool false))))
  sNext)
  (sSeq (sFor (iR1 (vCons (vCal gLen (vCons (vBor 0) vNil)) vNil)) (tgName 5)
  (sSeq (sIf (vTst (vBin gNe (vCall S_verdict_holds (vCons (vVar 0) (vCons (vVar 1) (vCons (vTup (vCons (vC (.py (.str "place"))) (vCons (vVar 5) vNil))) vNil)))) (vBin (gIn false) (vBor 5) (vBor 3))))
  (sRet (vC (.py (.bool false))))
  sNext)
  (sSeq (sSet 6 (vBin gSub (vBin gSub (vCal gLen (vCons (vBor 0) vNil)) (vC (.py (.int 1)))) (vBor 5)))
  (sIf (vTst (vBin gNe (vCall S_verdict_holds (vCons (vVar 0) (vCons (vVar 1) (vCons (vTup (vCons (vC (.py (.str "clash"))) (vCons (vVar 5) (vCons (vVar 6) vNil)))) vNil)))) (vBin (gIn false) (vTup (vCons (vVar 5) (vCons (vVar 6) vNil))) (vBor 4))))
  (sRet (vC (.py (.bool false))))
  sNext))))
  (sSeq (sSet 7 (vBin gAdd (vBin gMulA (vC (.py (.str "a"))) (vCal gLen (vCons (vBor 0) vNil))) (vBin gMulA (vC (.py (.str "s"))) (vCal gLen (vCons (vBor 0) vNil)))))
  (sRet (vOr (vBin gEq (vBin gIx (vBor 2) (vC (.py (.int 0)))) (vC (.py (.str "history")))) (vBin (gIsB false) (vCall S_verdict_holds (vCons (vVar 0) (vCons (vVar 1) (vCons (vTup (vCons (vC (.py (.str "history"))) (vCons (vVar 7) vNil))) vNil)))) (vC (.py (.bool false)))))))))))
def t_law_alike (S_verdict : SV) (S_kinds_of : SV) (S_clashes : SV) (S_is_possible : SV) (S_bounds_of : SV) : VS :=
  (sSeq (sPar [3, 4] (mCons false (vCall S_verdict (vCons (vVar 0) (vCons (vVar 1) vNil))) (mCons false (vCall S_verdict (vCons (vVar 2) (vCons (vVar 1) vNil))) mNil)))
  (sSeq (sIf (wOr (vTst (vBin gNe (vCall S_kinds_of (vCons (vVar 2) (vCons (vVar 1) vNil))) (vCall S_kinds_of (vCons (vVar 0) (vCons (vVar 1) vNil))))) (vTst (vBin gNe (vBin gIx (vBor 4) (vC (.py (.int 0)))) (vBin gIx (vBor 3) (vC (.py (.int 0)))))))
  (sRet (vC (.py (.bool false))))
  sNext)
  (sSeq (sIf (wAnd (vTst (vBin gNe (vBin gIx (vBor 3) (vC (.py (.int 0)))) (vC (.py (.str "history"))))) (vTst (vBin gNe (vBor 4) (vBor 3))))
  (sRet (vC (.py (.bool false))))
  sNext)
  (sSeq (sPar [5, 6] (mCons false (vBin gAdd (vBor 0) (vTup (vCons (vBin gMulA (vC (.py (.int 5))) (vBin gPow (vC (.py (.int 10))) (vC (.py (.int 8))))) vNil))) (mCons false (vBin gAdd (vBor 1) (vTup (vCons (vCal gLen (vCons (vBor 0) vNil)) vNil))) mNil)))
  (sSeq (sIf (wOr (vTst (vBin gNe (vCall S_kinds_of (vCons (vVar 5) (vCons (vVar 6) vNil))) (vBin gAdd (vCall S_kinds_of (vCons (vVar 0) (vCons (vVar 1) vNil))) (vTup (vCons (vC (.py (.str "leads"))) vNil))))) (vTst (vBin gNe (vCall S_clashes (vCons (vVar 5) (vCons (vVar 6) vNil))) (vCall S_clashes (vCons (vVar 0) (vCons (vVar 1) vNil))))))
  (sRet (vC (.py (.bool false))))
  sNext)
  (sSeq (sIf (wNot (vTst (vCall S_is_possible (vCons (vVar 0) (vCons (vVar 1) vNil)))))
  (sRet (vNot (vCall S_is_possible (vCons (vVar 5) (vCons (vVar 6) vNil)))))
  sNext)
  (sSeq (sAsg (vCall S_bounds_of (vCons (vVar 0) (vCons (vVar 1) vNil))) (tgTup 2 (tgCons (tgName 7) (tgCons (tgName 8) tgNil))))
  (sRet (vBin gEq (vCall S_bounds_of (vCons (vVar 5) (vCons (vVar 6) vNil))) (vTup (vCons (vBin gAdd (vBor 7) (vSl gSl (vBor 7) (oAt (vUn gNeg (vC (.py (.int 1))))) oNo)) (vCons (vBin gAdd (vBor 8) (vTup (vCons (vCal gLen (vCons (vBor 0) vNil)) vNil))) vNil))))))))))))
def t_law (S_j_row : SV) (S_possible_orders : SV) (S_law_pour : SV) (S_count_possible : SV) (S_j_mixed : SV) (S_j_swapped : SV) (S_law_one_right : SV) (S_law_alike : SV) (S_is_possible : SV) : VS :=
  (sSeq (sFor (iR1 (vCons (vC (.py (.int 6))) vNil)) (tgName 2)
  (sSeq (sSet 3 (vCall S_j_row (vCons (vVar 1) (vCons (vBin gIx (vLst (vCons (vC (.py (.int 20))) (vCons (vC (.py (.int 6))) (vCons (vC (.py (.int 10))) vNil)))) (vBin gMod (vBor 2) (vC (.py (.int 3))))) vNil))))
  (sSeq (sSet 4 (vTupRg (vCal gLen (vCons (vBor 3) vNil))))
  (sSeq (sIf (wAnd (vTst (vBin gEq (vBin gMod (vBor 2) (vC (.py (.int 2)))) (vC (.py (.int 0))))) (vTst (vBin gLt (vCal gLen (vCons (vBor 3) vNil)) (vC (.py (.int 11))))))
  (sSet 4 (vBin gIx (vCall S_possible_orders (vCons (vVar 3) vNil)) (vCall S_law_pour (vCons (vVar 1) (vCons (vCall S_count_possible (vCons (vVar 3) vNil)) vNil)))))
  sNext)
  (sSeq (sSet 5 (vCall S_j_mixed (vCons (vVar 1) (vCons (vSortSet (vBor 3)) vNil))))
  (sSeq (sSet 6 (vCal gTuple (vCons (vLc [10] (iS (vBor 3)) (tgName 10) wYes (vBin gIx (vBor 5) (vMth isSq gIndex (vSortSet (vBor 3)) (vCons (vBor 10) vNil)))) vNil)))
  (sFor (iS (vLst (vCons (vVar 4) (vCons (vCall S_j_swapped (vCons (vVar 1) (vCons (vVar 4) vNil))) (vCons (vCall S_j_mixed (vCons (vVar 1) (vCons (vVar 4) vNil))) vNil))))) (tgName 7)
  (sIf (wOr (wNot (vTst (vCall S_law_one_right (vCons (vVar 3) (vCons (vVar 7) vNil))))) (wNot (vTst (vCall S_law_alike (vCons (vVar 3) (vCons (vVar 7) (vCons (vVar 6) vNil)))))))
  (sRet (vC (.py (.bool false))))
  sNext))))))))
  (sSeq (sSet 8 (vBin gAdd (vC (.py (.int 1))) (vCall S_law_pour (vCons (vVar 1) (vCons (vC (.py (.int 8))) vNil)))))
  (sSeq (sSet 9 (vTup (vCons (vTupRg (vBor 8)) vNil)))
  (sSeq (sIf (wOr (vTst (vBin gNe (vCall S_possible_orders (vCons (vBin gMulP (vTup (vCons (vC (.py (.int 7))) vNil)) (vBor 8)) vNil)) (vBor 9))) (vTst (vBin gNe (vCall S_possible_orders (vCons (vTupRg (vBor 8)) vNil)) (vBor 9))))
  (sRet (vC (.py (.bool false))))
  sNext)
  (sRet (vAnd (vCall S_is_possible (vCons (vBin gMulA (vTup (vCons (vC (.py (.int 7))) vNil)) (vC (.py (.int 40)))) (vCons (vTupRg (vC (.py (.int 40)))) vNil))) (vCall S_is_possible (vCons (vTupRg (vC (.py (.int 40)))) (vCons (vTupRg (vC (.py (.int 40)))) vNil)))))))))
end LawP
set_option Elab.async false
set_option linter.all false
set_option maxRecDepth 100000
set_option maxHeartbeats 4000000
namespace LawP
open PySem PySem.Spec PyProof.Rows L2 VL
def tailO2 (S_verdict_holds : SV) : VS :=
  (sSeq (sSet 7 (vBin gAdd (vBin gMulA (vC (.py (.str "a"))) (vCal gLen (vCons (vBor 0) vNil))) (vBin gMulA (vC (.py (.str "s"))) (vCal gLen (vCons (vBor 0) vNil)))))
  (sRet (vOr (vBin gEq (vBin gIx (vBor 2) (vC (.py (.int 0)))) (vC (.py (.str "history")))) (vBin (gIsB false) (vCall S_verdict_holds (vCons (vVar 0) (vCons (vVar 1) (vCons (vTup (vCons (vC (.py (.str "history"))) (vCons (vVar 7) vNil))) vNil)))) (vC (.py (.bool false)))))))
def tailO (S_verdict_holds : SV) : VS :=
  (sSeq (sFor (iR1 (vCons (vCal gLen (vCons (vBor 0) vNil)) vNil)) (tgName 5)
  (sSeq (sIf (vTst (vBin gNe (vCall S_verdict_holds (vCons (vVar 0) (vCons (vVar 1) (vCons (vTup (vCons (vC (.py (.str "place"))) (vCons (vVar 5) vNil))) vNil)))) (vBin (gIn false) (vBor 5) (vBor 3))))
  (sRet (vC (.py (.bool false))))
  sNext)
  (sSeq (sSet 6 (vBin gSub (vBin gSub (vCal gLen (vCons (vBor 0) vNil)) (vC (.py (.int 1)))) (vBor 5)))
  (sIf (vTst (vBin gNe (vCall S_verdict_holds (vCons (vVar 0) (vCons (vVar 1) (vCons (vTup (vCons (vC (.py (.str "clash"))) (vCons (vVar 5) (vCons (vVar 6) vNil)))) vNil)))) (vBin (gIn false) (vTup (vCons (vVar 5) (vCons (vVar 6) vNil))) (vBor 4))))
  (sRet (vC (.py (.bool false))))
  sNext))))
  (tailO2 S_verdict_holds))
theorem t_law_one_right_eq (S_clashes : SV) (S_misplaced : SV) (S_verdict : SV) (S_is_possible : SV) (S_verdict_holds : SV) : t_law_one_right S_clashes S_misplaced S_verdict S_is_possible S_verdict_holds =
  (sSeq (sPar [2, 3, 4] (mCons false (vCall S_verdict (vCons (vVar 0) (vCons (vVar 1) vNil))) (mCons false (vCall S_misplaced (vCons (vVar 0) (vCons (vVar 1) vNil))) (mCons false (vCall S_clashes (vCons (vVar 0) (vCons (vVar 1) vNil))) mNil))))
  (sSeq (sIf (wOr (vTst (vBin gNe (vBin gEq (vBin gIx (vBor 2) (vC (.py (.int 0)))) (vC (.py (.str "history")))) (vCall S_is_possible (vCons (vVar 0) (vCons (vVar 1) vNil))))) (vTst (vBin gNe (vCall S_is_possible (vCons (vVar 0) (vCons (vVar 1) vNil))) (vBin gEq (vBin gAdd (vBor 3) (vBor 4)) (vTup vNil)))))
  (sRet (vC (.py (.bool false))))
  sNext)
  (sSeq (sIf (wOr (vTst (vBin (gIsB true) (vCall S_verdict_holds (vCons (vVar 0) (vCons (vVar 1) (vCons (vVar 2) vNil)))) (vC (.py (.bool true))))) (vTst (vBin gNe (vBin gEq (vBin gIx (vBor 2) (vC (.py (.int 0)))) (vC (.py (.str "place")))) (vBin gNe (vBor 3) (vTup vNil)))))
  (sRet (vC (.py (.bool false))))
  sNext)
  (tailO S_verdict_holds)))) := rfl
def tailA2 (S_is_possible : SV) (S_bounds_of : SV) : VS :=
  (sSeq (sIf (wNot (vTst (vCall S_is_possible (vCons (vVar 0) (vCons (vVar 1) vNil)))))
  (sRet (vNot (vCall S_is_possible (vCons (vVar 5) (vCons (vVar 6) vNil)))))
  sNext)
  (sSeq (sAsg (vCall S_bounds_of (vCons (vVar 0) (vCons (vVar 1) vNil))) (tgTup 2 (tgCons (tgName 7) (tgCons (tgName 8) tgNil))))
  (sRet (vBin gEq (vCall S_bounds_of (vCons (vVar 5) (vCons (vVar 6) vNil))) (vTup (vCons (vBin gAdd (vBor 7) (vSl gSl (vBor 7) (oAt (vUn gNeg (vC (.py (.int 1))))) oNo)) (vCons (vBin gAdd (vBor 8) (vTup (vCons (vCal gLen (vCons (vBor 0) vNil)) vNil))) vNil)))))))
def tailA (S_kinds_of : SV) (S_clashes : SV) (S_is_possible : SV) (S_bounds_of : SV) : VS :=
  (sSeq (sPar [5, 6] (mCons false (vBin gAdd (vBor 0) (vTup (vCons (vBin gMulA (vC (.py (.int 5))) (vBin gPow (vC (.py (.int 10))) (vC (.py (.int 8))))) vNil))) (mCons false (vBin gAdd (vBor 1) (vTup (vCons (vCal gLen (vCons (vBor 0) vNil)) vNil))) mNil)))
  (sSeq (sIf (wOr (vTst (vBin gNe (vCall S_kinds_of (vCons (vVar 5) (vCons (vVar 6) vNil))) (vBin gAdd (vCall S_kinds_of (vCons (vVar 0) (vCons (vVar 1) vNil))) (vTup (vCons (vC (.py (.str "leads"))) vNil))))) (vTst (vBin gNe (vCall S_clashes (vCons (vVar 5) (vCons (vVar 6) vNil))) (vCall S_clashes (vCons (vVar 0) (vCons (vVar 1) vNil))))))
  (sRet (vC (.py (.bool false))))
  sNext)
  (tailA2 S_is_possible S_bounds_of)))
theorem t_law_alike_eq (S_verdict : SV) (S_kinds_of : SV) (S_clashes : SV) (S_is_possible : SV) (S_bounds_of : SV) : t_law_alike S_verdict S_kinds_of S_clashes S_is_possible S_bounds_of =
  (sSeq (sPar [3, 4] (mCons false (vCall S_verdict (vCons (vVar 0) (vCons (vVar 1) vNil))) (mCons false (vCall S_verdict (vCons (vVar 2) (vCons (vVar 1) vNil))) mNil)))
  (sSeq (sIf (wOr (vTst (vBin gNe (vCall S_kinds_of (vCons (vVar 2) (vCons (vVar 1) vNil))) (vCall S_kinds_of (vCons (vVar 0) (vCons (vVar 1) vNil))))) (vTst (vBin gNe (vBin gIx (vBor 4) (vC (.py (.int 0)))) (vBin gIx (vBor 3) (vC (.py (.int 0)))))))
  (sRet (vC (.py (.bool false))))
  sNext)
  (sSeq (sIf (wAnd (vTst (vBin gNe (vBin gIx (vBor 3) (vC (.py (.int 0)))) (vC (.py (.str "history"))))) (vTst (vBin gNe (vBor 4) (vBor 3))))
  (sRet (vC (.py (.bool false))))
  sNext)
  (tailA S_kinds_of S_clashes S_is_possible S_bounds_of)))) := rfl
def tailL (S_possible_orders : SV) (S_law_pour : SV) (S_is_possible : SV) : VS :=
  (sSeq (sSet 8 (vBin gAdd (vC (.py (.int 1))) (vCall S_law_pour (vCons (vVar 1) (vCons (vC (.py (.int 8))) vNil)))))
  (sSeq (sSet 9 (vTup (vCons (vTupRg (vBor 8)) vNil)))
  (sSeq (sIf (wOr (vTst (vBin gNe (vCall S_possible_orders (vCons (vBin gMulP (vTup (vCons (vC (.py (.int 7))) vNil)) (vBor 8)) vNil)) (vBor 9))) (vTst (vBin gNe (vCall S_possible_orders (vCons (vTupRg (vBor 8)) vNil)) (vBor 9))))
  (sRet (vC (.py (.bool false))))
  sNext)
  (sRet (vAnd (vCall S_is_possible (vCons (vBin gMulA (vTup (vCons (vC (.py (.int 7))) vNil)) (vC (.py (.int 40)))) (vCons (vTupRg (vC (.py (.int 40)))) vNil))) (vCall S_is_possible (vCons (vTupRg (vC (.py (.int 40)))) (vCons (vTupRg (vC (.py (.int 40)))) vNil))))))))
def tailT (S_j_mixed : SV) (S_j_swapped : SV) (S_law_one_right : SV) (S_law_alike : SV) : VS :=
  (sSeq (sSet 5 (vCall S_j_mixed (vCons (vVar 1) (vCons (vSortSet (vBor 3)) vNil))))
  (sSeq (sSet 6 (vCal gTuple (vCons (vLc [10] (iS (vBor 3)) (tgName 10) wYes (vBin gIx (vBor 5) (vMth isSq gIndex (vSortSet (vBor 3)) (vCons (vBor 10) vNil)))) vNil)))
  (sFor (iS (vLst (vCons (vVar 4) (vCons (vCall S_j_swapped (vCons (vVar 1) (vCons (vVar 4) vNil))) (vCons (vCall S_j_mixed (vCons (vVar 1) (vCons (vVar 4) vNil))) vNil))))) (tgName 7)
  (sIf (wOr (wNot (vTst (vCall S_law_one_right (vCons (vVar 3) (vCons (vVar 7) vNil))))) (wNot (vTst (vCall S_law_alike (vCons (vVar 3) (vCons (vVar 7) (vCons (vVar 6) vNil)))))))
  (sRet (vC (.py (.bool false))))
  sNext))))
theorem t_law_eq (S_j_row : SV) (S_possible_orders : SV) (S_law_pour : SV) (S_count_possible : SV) (S_j_mixed : SV) (S_j_swapped : SV) (S_law_one_right : SV) (S_law_alike : SV) (S_is_possible : SV) : t_law S_j_row S_possible_orders S_law_pour S_count_possible S_j_mixed S_j_swapped S_law_one_right S_law_alike S_is_possible =
  (sSeq (sFor (iR1 (vCons (vC (.py (.int 6))) vNil)) (tgName 2)
  (sSeq (sSet 3 (vCall S_j_row (vCons (vVar 1) (vCons (vBin gIx (vLst (vCons (vC (.py (.int 20))) (vCons (vC (.py (.int 6))) (vCons (vC (.py (.int 10))) vNil)))) (vBin gMod (vBor 2) (vC (.py (.int 3))))) vNil))))
  (sSeq (sSet 4 (vTupRg (vCal gLen (vCons (vBor 3) vNil))))
  (sSeq (sIf (wAnd (vTst (vBin gEq (vBin gMod (vBor 2) (vC (.py (.int 2)))) (vC (.py (.int 0))))) (vTst (vBin gLt (vCal gLen (vCons (vBor 3) vNil)) (vC (.py (.int 11))))))
  (sSet 4 (vBin gIx (vCall S_possible_orders (vCons (vVar 3) vNil)) (vCall S_law_pour (vCons (vVar 1) (vCons (vCall S_count_possible (vCons (vVar 3) vNil)) vNil)))))
  sNext)
  (tailT S_j_mixed S_j_swapped S_law_one_right S_law_alike)))))
  (tailL S_possible_orders S_law_pour S_is_possible)) := rfl
end LawP
set_option Elab.async false
set_option linter.all false
set_option maxRecDepth 100000
set_option maxHeartbeats 4000000
namespace LawP
open PySem PySem.Spec PyProof.Rows L2 VL
end LawP
set_option Elab.async false
set_option linter.all false
set_option maxRecDepth 100000
set_option maxHeartbeats 4000000
namespace LawP
open PySem PySem.Spec PyProof.Rows L2 VL
end LawP
set_option Elab.async false
set_option linter.all false
set_option maxRecDepth 100000
set_option maxHeartbeats 4000000
namespace LawP
open PySem PySem.Spec PyProof.Rows L2 VL
end LawP
set_option Elab.async false
set_option linter.all false
set_option maxRecDepth 100000
set_option maxHeartbeats 4000000
namespace LawP
open PySem PySem.Spec PyProof.Rows L2 VL
/-! M22: the table of numbers -/
def geS (P : List (Nat × Nat)) (c : Nat) : Nat := ((P.filter fun p => decide (c ≤ p.1)).map (·.2)).sum
def rowT (lo hi : Nat) (P : List (Nat × Nat)) : List (Nat × Nat) := (List.range (hi + 1 - lo)).map fun i => (hi - i, geS P (hi - i))
def tabD (n : Nat) : List (Nat × Nat) → List (Nat × Nat)
  | [] => [(n, 1)]
  | (lo, hi) :: r => rowT lo hi (tabD n r)
def dctN (P : List (Nat × Nat)) : List (PyData × PyData) := P.map fun p => (pN p.1, pN p.2)
def tabN (n : Nat) : List (Nat × Nat) → List PyData
  | [] => []
  | x :: r => .dict (dctN (tabD n (x :: r))) :: tabN n r
end LawP
set_option Elab.async false
set_option linter.all false
set_option maxRecDepth 100000
set_option maxHeartbeats 4000000
namespace LawP
open PySem PySem.Spec PyProof.Rows L2 VL
/-! M23: words in the order of texts, and their counts -/
end LawP
set_option Elab.async false
set_option linter.all false
set_option maxRecDepth 100000
set_option maxHeartbeats 4000000
namespace LawP
open PySem PySem.Spec PyProof.Rows L2 VL
end LawP
set_option Elab.async false
set_option linter.all false
set_option maxRecDepth 100000
set_option maxHeartbeats 4000000
namespace LawP
open PySem PySem.Spec PyProof.Rows L2 VL
@[simp] def S_h_written : SV := fun ds Q _ => ∃ cs : List Nat, ds = [.py (.list (cs.map pN))] ∧ cs.length ≤ 1000 ∧ (∀ c ∈ cs, c ≤ 1000) ∧ Q (.py (.str (mkS (wordC cs.length 0 cs))))
@[simp] def S_h_mixed (r : Addr) : SV := fun ds Q _ => ∃ n : Nat, ds = [.raw (.ref r), .py (.int (n : Nat))] ∧ n ≤ 1000 ∧ ∀ ms : List Nat, ms.Perm (List.range n) → Q (.py (tN ms))
@[simp] def S_h_order (r : Addr) : SV := fun ds Q _ => ∃ row : List Int, ds = [.raw (.ref r), .py (tI row)] ∧ row ≠ [] ∧ row.length ≤ 40 ∧ ∀ ms : List Nat, ms.Perm (List.range row.length) → Q (.py (tN ms))
/-! ### the table -/
def bndL (row : List Int) (ms : List Nat) : List (Nat × Nat) := (List.range row.length).map fun k => (loS row ms k, hiS row ms k)
def tabF (row : List Int) (ms : List Nat) : List (Str × PyData) := if possB row ms = true then [("lows", tN (csLo row ms)), ("highs", tN (csHi row ms)), ("numbers", .list (tabN row.length (bndL row ms)))] else [("lows", .tuple []), ("highs", .tuple []), ("numbers", .list [])]
@[simp] def S_Table_init : SI := fun ds Q E => ∃ (row : List Int) (p : PyData), ds = [.py (tI row), .py p] ∧ row ≠ [] ∧ row.length ≤ 40 ∧ (∀ ms, p = tN ms → ms.Perm (List.range row.length) → Q (tabF row ms)) ∧ (ordB row.length p = false → E ⟨"NoOrder", []⟩)
def wordS (n : Nat) (cs : List Nat) : PyData := .str (mkS (wordC n 0 cs))
@[simp] def S_earliest : SV := fun ds Q E => ∃ (row : List Int) (p : PyData), ds = [.py (tI row), .py p] ∧ row ≠ [] ∧ row.length ≤ 40 ∧ (∀ ms, p = tN ms → ms.Perm (List.range row.length) → Q (.py (if possB row ms = true then wordS row.length (csHi row ms) else .none))) ∧ (ordB row.length p = false → E ⟨"NoOrder", []⟩)
@[simp] def S_latest : SV := fun ds Q E => ∃ (row : List Int) (p : PyData), ds = [.py (tI row), .py p] ∧ row ≠ [] ∧ row.length ≤ 40 ∧ (∀ ms, p = tN ms → ms.Perm (List.range row.length) → Q (.py (if possB row ms = true then wordS row.length (csLo row ms) else .none))) ∧ (ordB row.length p = false → E ⟨"NoOrder", []⟩)
end LawP
set_option Elab.async false
set_option linter.all false
set_option maxRecDepth 100000
set_option maxHeartbeats 4000000
namespace LawP
open PySem PySem.Spec PyProof.Rows L2 VL
/-! M26: counting histories -/
def upC (lo hi : Nat) : List Nat := (List.range (hi + 1 - lo)).map fun i => lo + i
/-- how many rows of counts, none below s -/
def cntS : List (Nat × Nat) → Nat → Nat
  | [], _ => 1
  | (lo, hi) :: r, s => (((upC lo hi).filter fun c => decide (s ≤ c)).map (cntS r)).sum
/-! ### the law's own count -/
end LawP
set_option Elab.async false
set_option linter.all false
set_option maxRecDepth 100000
set_option maxHeartbeats 4000000
namespace LawP
open PySem PySem.Spec PyProof.Rows L2 VL
@[simp] def S_h_number : SV := fun ds Q _ => ∃ lo hi : List Nat, ds = [.py (.list (lo.map pN)), .py (.list (hi.map pN))] ∧ lo.length ≤ 40 ∧ (∀ x ∈ lo, x ≤ 40) ∧ (∀ x ∈ hi, x ≤ 40) ∧ Q (.py (pN (cntS (lo.zip hi) 0)))
def totN2 (row : List Int) (ms : List Nat) : Nat := if possB row ms = true then cntS (bndL row ms) 0 else 0
@[simp] def S_Table_number : SV := fun ds Q _ => ∃ (row : List Int) (ms : List Nat) (a : Addr), ds = [.obj a "Table" (tabF row ms)] ∧ row ≠ [] ∧ row.length ≤ 40 ∧ ms.Perm (List.range row.length) ∧ Q (.py (pN (totN2 row ms)))
@[simp] def S_count_histories : SV := fun ds Q E => ∃ (row : List Int) (p : PyData), ds = [.py (tI row), .py p] ∧ row ≠ [] ∧ row.length ≤ 40 ∧ (∀ ms, p = tN ms → ms.Perm (List.range row.length) → Q (.py (pN (totN2 row ms)))) ∧ (ordB row.length p = false → E ⟨"NoOrder", []⟩)
end LawP
set_option Elab.async false
set_option linter.all false
set_option maxRecDepth 100000
set_option maxHeartbeats 4000000
namespace LawP
open PySem PySem.Spec PyProof.Rows L2 VL
/-! M27: shares of counts -/
/-- the bounds with one place narrowed to c -/
def nrw (L : List (Nat × Nat)) (p c : Nat) : List (Nat × Nat) := L.take p ++ (c, c) :: L.drop (p + 1)
end LawP
set_option Elab.async false
set_option linter.all false
set_option maxRecDepth 100000
set_option maxHeartbeats 4000000
namespace LawP
open PySem PySem.Spec PyProof.Rows L2 VL
def shN (row : List Int) (ms : List Nat) (p c : Nat) : Nat := cntS (nrw (bndL row ms) p c) 0
def sharesP (row : List Int) (ms : List Nat) (p : Nat) : PyData := .tuple (((upC (loS row ms p) (hiS row ms p)).filter fun c => decide (0 < shN row ms p c)).map fun c => PyData.tuple [pN c, pN (shN row ms p c)])
@[simp] def S_Table_shares : SV := fun ds Q _ => ∃ (row : List Int) (ms : List Nat) (a : Addr) (p : Nat), ds = [.obj a "Table" (tabF row ms), .py (.int (p : Nat))] ∧ Poss row ms ∧ row.length ≤ 40 ∧ ms.Perm (List.range row.length) ∧ p < row.length ∧ Q (.py (sharesP row ms p))
@[simp] def S_shares : SV := fun ds Q _ => ∃ (row : List Int) (ms : List Nat) (p : Nat), ds = [.py (tI row), .py (tN ms), .py (.int (p : Nat))] ∧ row ≠ [] ∧ row.length ≤ 40 ∧ ms.Perm (List.range row.length) ∧ p < row.length ∧ Q (.py (if possB row ms = true then sharesP row ms p else .tuple []))
end LawP
set_option Elab.async false
set_option linter.all false
set_option maxRecDepth 100000
set_option maxHeartbeats 4000000
namespace LawP
open PySem PySem.Spec PyProof.Rows L2 VL
/-! M28: other names, one person more, every count has a share -/
structure Same (row row' : List Int) : Prop where
  len : row'.length = row.length
  mate : ∀ k, mateOf row' k = mateOf row k
section
variable {row row' : List Int} (h : Same row row') (ms : List Nat)
include h
theorem Same.near : nearB row' ms = nearB row ms := by funext k; unfold nearB; rw [h.mate]
theorem Same.low : lowD row' ms = lowD row ms := by funext k; unfold lowD; rw [h.mate, h.near]
theorem Same.high : highD row' ms = highD row ms := by funext k; unfold highD; rw [h.mate, h.near]
theorem Same.hi : hiS row' ms = hiS row ms := by funext k; unfold hiS; rw [h.high, h.len]
theorem Same.csHi : csHi row' ms = csHi row ms := by unfold LawP.csHi; rw [h.len, h.hi]
end
theorem same_map {row : List Int} {f : Int → Int} (hf : ∀ a ∈ row, ∀ b ∈ row, f a = f b → a = b) : Same row (row.map f) := by
  refine ⟨by simp, fun k => ?_⟩
  unfold mateOf
  rw [List.getElem?_map]
  cases hk : row[k]? with
  | none => rfl
  | some g =>
    have hg := List.mem_of_getElem? hk
    show lastIn (row.map f) (f g) k = lastIn row g k
    unfold lastIn
    congr 1
    refine List.filter_congr fun j _ => ?_
    rw [List.getElem?_map]
    cases hj : row[j]? with
    | none => rfl
    | some a =>
      have ha := List.mem_of_getElem? hj
      rw [Bool.eq_iff_iff]
      simp only [Option.map_some, beq_iff_eq, Option.some.injEq]
      exact ⟨fun e => hf a ha g hg e, fun e => by rw [e]⟩
/-! ### one person more, of a group of his own, last of all -/
theorem maxTo_congr {f g : Nat → Nat} : ∀ {k : Nat}, (∀ j, j ≤ k → f j = g j) → maxTo f k = maxTo g k
  | 0, h => h 0 (Nat.le_refl _)
  | k + 1, h => by unfold maxTo; rw [maxTo_congr fun j hj => h j (by omega), h (k + 1) (Nat.le_refl _)]
theorem minFrom_congr {f g : Nat → Nat} {k : Nat} : ∀ {d : Nat}, (∀ j, j ≤ d → f (k + j) = g (k + j)) → minFrom f k d = minFrom g k d
  | 0, h => h 0 (Nat.le_refl _)
  | d + 1, h => by unfold minFrom; rw [minFrom_congr fun j hj => h j (by omega), show f (k + d + 1) = g (k + d + 1) from h (d + 1) (Nat.le_refl _)]
section
variable {row : List Int} {ms : List Nat} {z : Int} (hp : ms.Perm (List.range row.length)) (hz : z ∉ row)
include hp hz
theorem more_mate : (∀ k, k < row.length → mateOf (row ++ [z]) k = mateOf row k) ∧ mateOf (row ++ [z]) row.length = none := by
  have lst : ∀ g i, i ≤ row.length → lastIn (row ++ [z]) g i = lastIn row g i := fun g i hi => by
    unfold lastIn
    congr 1
    refine List.filter_congr fun j hj => ?_
    have hj := List.mem_range.mp hj
    rw [List.getElem?_append_left (by omega)]
  refine ⟨fun k hk => ?_, ?_⟩
  · unfold mateOf
    rw [List.getElem?_append_left hk]
    congr 1
    funext g
    exact lst g k (by omega)
  · unfold mateOf
    rw [List.getElem?_append_right (Nat.le_refl _)]
    simp only [Nat.sub_self, List.getElem?_cons_zero, Option.bind_some]
    rw [lst z row.length (Nat.le_refl _)]
    unfold lastIn
    rw [List.filter_eq_nil_iff.mpr]
    · rfl
    · intro j _ e
      have e : row[j]? = some z := by simpa using e
      exact hz (List.mem_of_getElem? e)
theorem more_idx : (∀ k, k < row.length → (ms ++ [row.length]).idxOf k = ms.idxOf k) ∧ (ms ++ [row.length]).idxOf row.length = row.length := by
  refine ⟨fun k hk => by rw [List.idxOf_append, if_pos ((perm_mem hp).mpr hk)], ?_⟩
  rw [List.idxOf_append, if_neg (fun h => by have := (perm_mem hp).mp h; omega), perm_len hp]
  simp
theorem more_old {k : Nat} (hk : k < row.length) : nearB (row ++ [z]) (ms ++ [row.length]) k = nearB row ms k ∧ leadB (ms ++ [row.length]) k = leadB ms k ∧ lowD (row ++ [z]) (ms ++ [row.length]) k = lowD row ms k ∧ highD (row ++ [z]) (ms ++ [row.length]) k = highD row ms k := by
  obtain ⟨m1, _⟩ := more_mate hp hz
  obtain ⟨i1, _⟩ := more_idx hp hz
  have mm : ∀ m, mateOf row k = some m → m < row.length := fun m e => by
    unfold mateOf at e
    cases hg : row[k]? with
    | none => rw [hg] at e; cases e
    | some g =>
      rw [hg] at e
      have e : lastIn row g k = some m := e
      unfold lastIn at e
      have := List.mem_range.mp (List.mem_filter.mp (List.mem_of_getLast? e)).1
      omega
  have ld : leadB (ms ++ [row.length]) k = leadB ms k := by
    unfold leadB
    rw [Bool.eq_iff_iff, List.all_eq_true, List.all_eq_true]
    refine forall_congr' fun j => forall_congr' fun hj => ?_
    have hj := List.mem_range.mp hj
    rw [i1 j (by omega), i1 k hk]
  have nr : nearB (row ++ [z]) (ms ++ [row.length]) k = nearB row ms k := by
    unfold nearB
    rw [m1 k hk]
    cases e : mateOf row k with
    | none => rfl
    | some m =>
      show decide (_ = _) = decide (_ = _)
      rw [i1 k hk, i1 m (mm m e)]
  refine ⟨nr, ld, ?_, ?_⟩
  · unfold lowD
    rw [m1 k hk, nr, ld]
    cases e : mateOf row k with
    | none => rfl
    | some m =>
      show (if _ then _ else _) = if _ then _ else _
      rw [i1 m (mm m e)]
  · unfold highD
    rw [m1 k hk, nr, ld]
    cases e : mateOf row k with
    | none => exact i1 k hk
    | some m =>
      show (if _ then _ else _) = if _ then _ else _
      rw [i1 m (mm m e), i1 k hk]
theorem more_new : leadB (ms ++ [row.length]) row.length = true ∧ lowD (row ++ [z]) (ms ++ [row.length]) row.length = 0 ∧ highD (row ++ [z]) (ms ++ [row.length]) row.length = row.length := by
  obtain ⟨_, m2⟩ := more_mate hp hz
  obtain ⟨i1, i2⟩ := more_idx hp hz
  refine ⟨?_, ?_, ?_⟩
  · unfold leadB
    rw [List.all_eq_true]
    intro j hj
    have hj := List.mem_range.mp hj
    rw [i2, i1 j hj]
    have := List.idxOf_lt_length_of_mem ((perm_mem hp).mpr hj)
    rw [perm_len hp] at this
    simpa using this
  · unfold lowD; rw [m2]
  · unfold highD; rw [m2]; exact i2
theorem more_bnd (hn : 0 < row.length) : bndL (row ++ [z]) (ms ++ [row.length]) = bndL row ms ++ [(loS row ms (row.length - 1), row.length)] := by
  obtain ⟨_, n2, n3⟩ := more_new hp hz
  have lo1 : ∀ k, k < row.length → loS (row ++ [z]) (ms ++ [row.length]) k = loS row ms k := fun k hk => maxTo_congr fun j hj => (more_old hp hz (by omega)).2.2.1
  have hi1 : ∀ k, k < row.length → hiS (row ++ [z]) (ms ++ [row.length]) k = hiS row ms k := fun k hk => by
    have h1 := hiS_le_self (row := row) hp hk
    have e : minFrom (highD (row ++ [z]) (ms ++ [row.length])) k (row.length - 1 - k) = hiS row ms k := minFrom_congr fun j hj => (more_old hp hz (by omega)).2.2.2
    unfold hiS
    rw [show (row ++ [z]).length - 1 - k = (row.length - 1 - k) + 1 by simp; omega]
    have em : minFrom (highD (row ++ [z]) (ms ++ [row.length])) k ((row.length - 1 - k) + 1) = min (minFrom (highD (row ++ [z]) (ms ++ [row.length])) k (row.length - 1 - k)) (highD (row ++ [z]) (ms ++ [row.length]) (k + (row.length - 1 - k) + 1)) := rfl
    rw [em, e, show k + (row.length - 1 - k) + 1 = row.length by omega, n3]
    show min (hiS row ms k) row.length = hiS row ms k
    omega
  unfold bndL
  rw [List.length_append, List.length_singleton, List.range_succ, List.map_append]
  congr 1
  · refine List.map_congr_left fun k hk => ?_
    have hk := List.mem_range.mp hk
    rw [lo1 k hk, hi1 k hk]
  · have e1 : loS (row ++ [z]) (ms ++ [row.length]) row.length = loS row ms (row.length - 1) := by
      unfold loS
      have em : ∀ n, 0 < n → maxTo (lowD (row ++ [z]) (ms ++ [row.length])) n = max (maxTo (lowD (row ++ [z]) (ms ++ [row.length])) (n - 1)) (lowD (row ++ [z]) (ms ++ [row.length]) n) := fun n hn => by
        cases n with
        | zero => omega
        | succ n => rfl
      rw [em _ hn, n2]
      have := lo1 (row.length - 1) (by omega)
      unfold loS at this
      rw [this]
      exact Nat.max_eq_left (Nat.zero_le _)
    have e2 : hiS (row ++ [z]) (ms ++ [row.length]) row.length = row.length := by
      unfold hiS
      rw [show (row ++ [z]).length - 1 - row.length = 0 by simp]
      exact n3
    rw [List.map_singleton, e1, e2]
theorem more_poss : possB (row ++ [z]) (ms ++ [row.length]) = possB row ms := by
  obtain ⟨n1, n2, n3⟩ := more_new hp hz
  rw [Bool.eq_iff_iff, possB_iff, possB_iff]
  unfold Poss
  rw [wrongL_nil, wrongL_nil, clashL_nil, clashL_nil, List.length_append, List.length_singleton]
  constructor
  · rintro ⟨h1, h2⟩
    refine ⟨fun k hk => ?_, fun a b hab hb => ?_⟩
    · have := h1 k (by omega)
      rwa [(more_old hp hz hk).1, (more_old hp hz hk).2.1] at this
    · have := h2 a b hab (by omega)
      rwa [(more_old hp hz (show a < row.length by omega)).2.2.1, (more_old hp hz hb).2.2.2] at this
  · rintro ⟨h1, h2⟩
    refine ⟨fun k hk => ?_, fun a b hab hb => ?_⟩
    · by_cases e : k = row.length
      · subst e; exact .inr n1
      · rw [(more_old hp hz (show k < row.length by omega)).1, (more_old hp hz (show k < row.length by omega)).2.1]
        exact h1 k (by omega)
    · rw [(more_old hp hz (show a < row.length by omega)).2.2.1]
      by_cases e : b = row.length
      · subst e
        rw [n3]
        unfold lowD
        cases e : mateOf row a with
        | none => exact Nat.zero_le _
        | some m =>
          show (if _ then _ else _) ≤ _
          split
          · have hm : m < row.length := by
              unfold mateOf at e
              cases hg : row[a]? with
              | none => rw [hg] at e; cases e
              | some g =>
                rw [hg] at e
                have e : lastIn row g a = some m := e
                unfold lastIn at e
                have := List.mem_range.mp (List.mem_filter.mp (List.mem_of_getLast? e)).1
                omega
            have := List.idxOf_lt_length_of_mem ((perm_mem hp).mpr hm)
            rw [perm_len hp] at this
            exact this
          · exact Nat.zero_le _
      · rw [(more_old hp hz (show b < row.length by omega)).2.2.2]
        exact h2 a b hab (by omega)
end
end LawP
set_option Elab.async false
set_option linter.all false
set_option maxRecDepth 100000
set_option maxHeartbeats 4000000
namespace LawP
open PySem PySem.Spec PyProof.Rows L2 VL
/-! M54: other names, one person more: kinds, clashes, verdicts, bounds; right verdicts -/
section
variable {row row' : List Int} (h : Same row row') (ms : List Nat)
include h
theorem Same.wrong : wrongL row' ms = wrongL row ms := by unfold wrongL; rw [h.len, h.near]
theorem Same.clash : clashL row' ms = clashL row ms := by unfold clashL clashN clashRow; rw [h.len, h.low, h.high]
theorem Same.verd : verdP row' ms = verdP row ms := by unfold verdP; rw [h.wrong, h.clash, h.len, h.csHi]
theorem Same.kind : kindL row' ms = kindL row ms := by unfold kindL; rw [h.len, h.near]
end
section
variable {row : List Int} {ms : List Nat} {z : Int} (hp : ms.Perm (List.range row.length))
include hp
theorem lowD_le (a : Nat) : lowD row ms a ≤ row.length := by
  unfold lowD
  cases e : mateOf row a with
  | none => exact Nat.zero_le _
  | some m =>
    show (if _ then _ else _) ≤ _
    split
    · have hm : m < row.length := by have := mateOf_lt e; omega
      have := List.idxOf_lt_length_of_mem ((perm_mem hp).mpr hm)
      rw [perm_len hp] at this
      exact this
    · exact Nat.zero_le _
theorem more_perm : (ms ++ [row.length]).Perm (List.range (row ++ [z]).length) := by
  rw [List.length_append, List.length_singleton, List.range_succ]
  exact hp.append_right _
variable (hz : z ∉ row)
include hz
theorem more_kind : kindL (row ++ [z]) (ms ++ [row.length]) = kindL row ms ++ [("leads" : Str)] := by
  obtain ⟨_, m2⟩ := more_mate hp hz
  unfold kindL
  rw [List.length_append, List.length_singleton, List.range_succ, List.map_append]
  congr 1
  · refine List.map_congr_left fun k hk => ?_
    have hk := List.mem_range.mp hk
    obtain ⟨h1, h2, _⟩ := more_old hp hz hk
    rw [h1, h2]
  · have n1 : nearB (row ++ [z]) (ms ++ [row.length]) row.length = false := by unfold nearB; rw [m2]
    rw [List.map_singleton, n1, (more_new hp hz).1]
    rfl
theorem more_clash : clashL (row ++ [z]) (ms ++ [row.length]) = clashL row ms := by
  obtain ⟨_, _, n3⟩ := more_new hp hz
  unfold clashL clashN
  rw [List.length_append, List.length_singleton, List.range_succ, List.flatMap_append]
  have e2 : [row.length].flatMap (clashRow (row ++ [z]) (ms ++ [row.length])) = [] := by
    simp [clashRow]
  rw [e2, List.append_nil]
  have go : ∀ L : List Nat, (∀ a ∈ L, a < row.length) → L.flatMap (clashRow (row ++ [z]) (ms ++ [row.length])) = L.flatMap (clashRow row ms) := by
    intro L
    induction L with
    | nil => intro _; rfl
    | cons a L ih =>
      intro h
      rw [List.flatMap_cons, List.flatMap_cons, ih fun b hb => h b (List.mem_cons_of_mem _ hb)]
      congr 1
      have ha := h a List.mem_cons_self
      unfold clashRow
      rw [List.length_append, List.length_singleton, show row.length + 1 - (a + 1) = (row.length - (a + 1)) + 1 by omega, List.range_succ, List.filter_append]
      have e3 : [row.length - (a + 1)].filter (fun j => decide (highD (row ++ [z]) (ms ++ [row.length]) (a + 1 + j) < lowD (row ++ [z]) (ms ++ [row.length]) a)) = [] := by
        rw [List.filter_eq_nil_iff]
        intro j hj
        rw [List.mem_singleton.mp hj, show a + 1 + (row.length - (a + 1)) = row.length by omega, n3, (more_old hp hz ha).2.2.1]
        have := lowD_le hp a
        simpa using this
      rw [e3, List.append_nil]
      congr 1
      refine List.filter_congr fun j hj => ?_
      have hj := List.mem_range.mp hj
      rw [(more_old hp hz ha).2.2.1, (more_old hp hz (show a + 1 + j < row.length by omega)).2.2.2]
  exact go _ fun a ha => List.mem_range.mp ha
theorem more_csLo (hn : 0 < row.length) : csLo (row ++ [z]) (ms ++ [row.length]) = csLo row ms ++ [loS row ms (row.length - 1)] := by
  have e : ∀ (r : List Int) (m : List Nat), csLo r m = (bndL r m).map Prod.fst := fun r m => by unfold csLo bndL; rw [List.map_map]; rfl
  rw [e, e, more_bnd hp hz hn, List.map_append]; rfl
theorem more_csHi (hn : 0 < row.length) : csHi (row ++ [z]) (ms ++ [row.length]) = csHi row ms ++ [row.length] := by
  have e : ∀ (r : List Int) (m : List Nat), csHi r m = (bndL r m).map Prod.snd := fun r m => by unfold csHi bndL; rw [List.map_map]; rfl
  rw [e, e, more_bnd hp hz hn, List.map_append]; rfl
end
theorem csLo_last {row : List Int} {ms : List Nat} (hn : 0 < row.length) : ∃ A, csLo row ms = A ++ [loS row ms (row.length - 1)] := by
  unfold csLo
  obtain ⟨n, e⟩ : ∃ n, row.length = n + 1 := ⟨row.length - 1, by omega⟩
  rw [e, List.range_succ, List.map_append]
  exact ⟨_, rfl⟩
/-! ### right verdicts -/
section
variable {row : List Int} {ms : List Nat}
theorem eqvN {a : Nat} {i : Int} : (pN a).eqv (.int i) = decide ((a : Int) = i) := by
  rw [Bool.eq_iff_iff]; simp [pN]
theorem right_place {k : Nat} (hk : k ≤ row.length) : rightB row ms (.tuple [.str "place", .int k]) = decide (k ∈ wrongL row ms) := by
  have e1 : ¬ ("place" : Str) = Str.ofString "history" := by decide +kernel
  have e2 : ("place" : Str) = Str.ofString "place" := rfl
  unfold rightB
  simp only [List.all_nil, Bool.and_true]
  rw [if_neg e1, if_pos trivial]
  have hv : vitB row.length (.int k) = true := by unfold vitB; simp; omega
  rw [hv]
  simp only [List.isEmpty_nil, Bool.true_and]
  unfold inW
  rw [Bool.eq_iff_iff, List.any_map, List.any_eq_true, decide_eq_true_eq]
  constructor
  · rintro ⟨x, hx, e⟩
    have e : (pN x).eqv (.int k) = true := e
    rw [eqvN] at e
    have : x = k := by have := of_decide_eq_true e; omega
    exact this ▸ hx
  · intro h
    refine ⟨k, h, ?_⟩
    show (pN k).eqv (.int k) = true
    rw [eqvN]; exact decide_eq_true rfl
theorem eqvP {p : Nat × Nat} {a b : Nat} : (pairP p).eqv (.tuple [.int a, .int b]) = decide (p = (a, b)) := by
  obtain ⟨x, y⟩ := p
  rw [Bool.eq_iff_iff, decide_eq_true_eq]
  show (tI [(x : Int), y]).eqv (tI [(a : Int), b]) = true ↔ _
  rw [eqv_tI]
  simp
  omega
theorem right_clash {a b : Nat} (ha : a ≤ row.length) (hb : b ≤ row.length) : rightB row ms (.tuple [.str "clash", .int a, .int b]) = decide ((a, b) ∈ clashL row ms) := by
  have e1 : ¬ ("clash" : Str) = Str.ofString "history" := by decide +kernel
  have e2 : ¬ ("clash" : Str) = Str.ofString "place" := by decide +kernel
  have e3 : ("clash" : Str) = Str.ofString "clash" := rfl
  unfold rightB
  simp only [List.all_nil, List.all_cons, Bool.and_true]
  rw [if_neg e1, if_neg e2]
  have hv : vitB row.length (.int a) = true := by unfold vitB; simp; omega
  have hw : vitB row.length (.int b) = true := by unfold vitB; simp; omega
  rw [hv, hw, decide_eq_true trivial]
  simp only [Bool.true_and]
  unfold inC
  rw [Bool.eq_iff_iff, List.any_map, List.any_eq_true, decide_eq_true_eq]
  constructor
  · rintro ⟨x, hx, e⟩
    have e : (pairP x).eqv (.tuple [.int a, .int b]) = true := e
    rw [eqvP] at e
    exact of_decide_eq_true e ▸ hx
  · intro h
    refine ⟨(a, b), h, ?_⟩
    show (pairP (a, b)).eqv (.tuple [.int a, .int b]) = true
    rw [eqvP]; exact decide_eq_true rfl
theorem right_his {p : PyData} (hv : vitB row.length p = true) : rightB row ms (.tuple [.str "history", p]) = hisB row ms p := by
  have e1 : ("history" : Str) = Str.ofString "history" := rfl
  unfold rightB
  simp only [List.all_nil, Bool.and_true]
  rw [if_pos trivial, hv]
  simp
theorem his_poss (hp : ms.Perm (List.range row.length)) {p : PyData} (h : hisB row ms p = true) : Poss row ms := by
  cases p
  case str z =>
    unfold hisB at h
    rw [Bool.and_eq_true, decide_eq_true_eq] at h
    exact (poss_iff hp).mpr ⟨_, good_iff.mp h.1, h.2⟩
  all_goals (unfold hisB at h; cases h)
theorem wrong_lt {k : Nat} (h : k ∈ wrongL row ms) : k < row.length := by
  unfold wrongL at h
  exact List.mem_range.mp (List.mem_filter.mp h).1
theorem clash_lt {c : Nat × Nat} (h : c ∈ clashL row ms) : c.1 < c.2 ∧ c.2 < row.length := by
  unfold clashL clashN at h
  obtain ⟨a, ha, h⟩ := List.mem_flatMap.mp h
  unfold clashRow at h
  obtain ⟨j, hj, rfl⟩ := List.mem_map.mp h
  have := List.mem_range.mp (List.mem_filter.mp hj).1
  exact ⟨by show a < a + 1 + j; omega, by show a + 1 + j < row.length; omega⟩
theorem right_verd (hp : ms.Perm (List.range row.length)) : rightB row ms (verdP row ms) = true := by
  unfold verdP
  cases hw : wrongL row ms with
  | cons k ks =>
    have hm : k ∈ wrongL row ms := by rw [hw]; exact List.mem_cons_self
    show rightB row ms (.tuple [.str "place", .int k]) = true
    rw [right_place (Nat.le_of_lt (wrong_lt hm))]
    exact decide_eq_true hm
  | nil =>
    cases hc : clashL row ms with
    | cons c cs =>
      have hm : c ∈ clashL row ms := by rw [hc]; exact List.mem_cons_self
      have := clash_lt hm
      show rightB row ms (.tuple [.str "clash", .int c.1, .int c.2]) = true
      rw [right_clash (by omega) (by omega)]
      exact decide_eq_true hm
    | nil =>
      show rightB row ms (.tuple [.str "history", .str (mkS (wordC row.length 0 (csHi row ms)))]) = true
      have hpo : Poss row ms := ⟨hw, hc⟩
      obtain ⟨hww, how⟩ := ord_word hp (csHi_ok hp) (csHi_fits hpo)
      rw [right_his rfl]
      unfold hisB
      simp only [sl_mkS]
      rw [good_iff.mpr hww, how]
      simp
end
/-! ### all of one group, all of different groups -/
theorem pos_one {n : Nat} (h0 : 1 ≤ n) (h1 : n ≤ 8) : posO (List.replicate n 7) = [oI (List.range n)] := by
  rcases (by omega : n = 1 ∨ n = 2 ∨ n = 3 ∨ n = 4 ∨ n = 5 ∨ n = 6 ∨ n = 7 ∨ n = 8) with rfl | rfl | rfl | rfl | rfl | rfl | rfl | rfl <;> decide +kernel
theorem pos_all {n : Nat} (h0 : 1 ≤ n) (h1 : n ≤ 8) : posO ((List.range n).map fun k : Nat => (k : Int)) = [oI (List.range n)] := by
  rcases (by omega : n = 1 ∨ n = 2 ∨ n = 3 ∨ n = 4 ∨ n = 5 ∨ n = 6 ∨ n = 7 ∨ n = 8) with rfl | rfl | rfl | rfl | rfl | rfl | rfl | rfl <;> decide +kernel
end LawP
set_option Elab.async false
set_option linter.all false
set_option maxRecDepth 100000
set_option maxHeartbeats 4000000
namespace LawP
open PySem PySem.Spec PyProof.Rows L2 VL
section
variable {row : List Int} {ms : List Nat} {Q : D → Prop} {E : Er → Prop}
theorem no23 (hp : ms.Perm (List.range row.length)) {P : Prop} (hb : ordB row.length (tN ms) = false) : P := by rw [ordB_tN hp] at hb; cases hb
theorem sKin (h0 : row ≠ []) (h1 : row.length ≤ 40) (hp : ms.Perm (List.range row.length)) (q : Q (.py (.tuple ((kindL row ms).map PyData.str)))) : S_kinds_of [.py (tI row), .py (tN ms)] Q E :=
  ⟨row, _, rfl, h0, h1, fun ms' e _ => by obtain rfl := tN_inj.mp e; exact q, fun h => no23 hp h⟩
theorem sVer (h0 : row ≠ []) (h1 : row.length ≤ 40) (hp : ms.Perm (List.range row.length)) (q : Q (.py (verdP row ms))) : S_verdict [.py (tI row), .py (tN ms)] Q E :=
  ⟨row, _, rfl, h0, h1, fun ms' e _ => by obtain rfl := tN_inj.mp e; exact q, fun h => no23 hp h⟩
theorem sPos (h0 : row ≠ []) (h1 : row.length ≤ 40) (hp : ms.Perm (List.range row.length)) (q : Q (.py (.bool (possB row ms)))) : S_is_possible [.py (tI row), .py (tN ms)] Q E :=
  ⟨row, _, rfl, h0, h1, fun ms' e _ => by obtain rfl := tN_inj.mp e; exact q, fun h => no23 hp h⟩
theorem sMis (h0 : row ≠ []) (h1 : row.length ≤ 40) (hp : ms.Perm (List.range row.length)) (q : Q (.py (tN (wrongL row ms)))) : S_misplaced [.py (tI row), .py (tN ms)] Q E :=
  ⟨row, _, rfl, h0, h1, fun ms' e _ => by obtain rfl := tN_inj.mp e; exact q, fun h => no23 hp h⟩
theorem sCla (h0 : row ≠ []) (h1 : row.length ≤ 40) (hp : ms.Perm (List.range row.length)) (q : Q (.py (.tuple ((clashL row ms).map pairP)))) : S_clashes [.py (tI row), .py (tN ms)] Q E :=
  ⟨row, _, rfl, h0, h1, fun ms' e _ => by obtain rfl := tN_inj.mp e; exact q, fun h => no23 hp h⟩
theorem sHol {v : PyData} (h0 : row ≠ []) (h1 : row.length ≤ 40) (hp : ms.Perm (List.range row.length)) (hv : ∀ xs, v = .tuple xs → xs.length ≤ 1000 ∧ ∀ z, PyData.str z ∈ xs → z.length ≤ 100000) (q : Q (.py (.bool (rightB row ms v)))) : S_verdict_holds [.py (tI row), .py (tN ms), .py v] Q E :=
  ⟨row, _, v, rfl, h0, h1, hv, fun ms' e _ => by obtain rfl := tN_inj.mp e; exact q, fun h => no23 hp h⟩
theorem sBnd (h0 : row ≠ []) (h1 : row.length ≤ 40) (hp : ms.Perm (List.range row.length)) (hq : Poss row ms) (q : Q (.py (.tuple [tN (csLo row ms), tN (csHi row ms)]))) : S_bounds_of [.py (tI row), .py (tN ms)] Q E :=
  ⟨row, _, rfl, h0, h1, fun ms' e _ => by obtain rfl := tN_inj.mp e; exact ⟨fun _ => q, fun h => absurd hq h⟩, fun h => no23 hp h⟩
end
theorem gne_self {p : PyData} {Q : D → Prop} (pl : p.plain = true) (dp : p.depth ≤ 60) (k : Q (.py (.bool false))) : gNe (.py p) (.py p) Q := by
  have he := PySem.SeqAt.eqv_refl_plain p pl
  have k' : Q (.py (.bool (!p.eqv p))) := by rw [he]; exact k
  cases p
  case tuple xs =>
    cases xs with
    | nil => exact k
    | cons x xs => exact ⟨pl, pl, .inl dp, k'⟩
  case list xs =>
    cases xs with
    | nil => exact k
    | cons x xs => exact ⟨pl, pl, .inl dp, k'⟩
  all_goals exact ⟨pl, pl, .inl dp, k'⟩
theorem plbool (a : Bool) : (PyData.bool a).eqv (.bool a) = true := PySem.SeqAt.eqv_refl_plain _ rfl
theorem verd_cases {row : List Int} {ms : List Nat} (h : row.length ≤ 40) (hp : ms.Perm (List.range row.length)) : ∃ (z : Str) (rest : List PyData), verdP row ms = .tuple (.str z :: rest) ∧ (z == Str.ofString "history") = possB row ms ∧ (z == Str.ofString "place") = !(wrongL row ms).isEmpty ∧ PyData.plainAll (.str z :: rest) = true ∧ PyData.depthAll (.str z :: rest) ≤ 50 ∧ (rest.length ≤ 2) ∧ (∀ y, PyData.str y ∈ PyData.str z :: rest → y.length ≤ 100000) := by
  have hl : (mkS (wordC row.length 0 (csHi row ms))).length ≤ 100000 := by have := wordC_len (csHi_ok hp); simp; omega
  have e1 : ((Str.ofString "place") == Str.ofString "history") = false := by decide +kernel
  have e2 : ((Str.ofString "clash") == Str.ofString "history") = false := by decide +kernel
  have e3 : ((Str.ofString "clash") == Str.ofString "place") = false := by decide +kernel
  have e4 : ((Str.ofString "history") == Str.ofString "place") = false := by decide +kernel
  unfold verdP possB
  cases hw : wrongL row ms with
  | cons k ks => exact ⟨_, _, rfl, e1, by simp, rfl, Nat.zero_le _, by simp, fun y hy => by
      simp [pN] at hy; subst hy; decide +kernel⟩
  | nil =>
    cases hc : clashL row ms with
    | cons c cs => exact ⟨_, _, rfl, e2, e3, rfl, Nat.zero_le _, by simp, fun y hy => by
        simp [pN] at hy; subst hy; decide +kernel⟩
    | nil => exact ⟨_, _, rfl, by simp, e4, rfl, Nat.zero_le _, by simp, fun y hy => by
        simp only [List.mem_cons, List.not_mem_nil, or_false, PyData.str.injEq] at hy
        rcases hy with rfl | rfl
        · decide +kernel
        · exact hl⟩
theorem wrong_len (row : List Int) (ms : List Nat) : (wrongL row ms).length ≤ row.length := by
  unfold wrongL
  exact Nat.le_trans (List.length_filter_le _ _) (by rw [List.length_range]; exact Nat.le_refl _)
theorem clash_len (row : List Int) (ms : List Nat) : (clashL row ms).length ≤ row.length * row.length := by
  unfold clashL clashN
  have go : ∀ L : List Nat, (L.flatMap (clashRow row ms)).length ≤ row.length * L.length := by
    intro L
    induction L with
    | nil => simp
    | cons a L ih =>
      rw [List.flatMap_cons, List.length_append, List.length_cons, Nat.mul_succ]
      have : (clashRow row ms a).length ≤ row.length := by
        unfold clashRow
        rw [List.length_map]
        refine Nat.le_trans (List.length_filter_le _ _) ?_
        rw [List.length_range]; omega
      omega
  have := go (List.range row.length)
  rw [List.length_range] at this
  exact this
@[simp] def S_law_one_right : SV := fun ds Q _ => ∃ (row : List Int) (ms : List Nat), ds = [.py (tI row), .py (tN ms)] ∧ row ≠ [] ∧ row.length ≤ 20 ∧ ms.Perm (List.range row.length) ∧ Q (.py (.bool true))
theorem pl_pNs (L : List Nat) : PyData.plainAll (L.map pN) = true := by
  induction L with
  | nil => rfl
  | cons x L ih => rw [List.map_cons, plainAll_cons, ih]; rfl
theorem tO_ok {row : List Int} {ms : List Nat} {z : Str} {rest : List PyData} {De : VEnds} (h0 : row ≠ []) (h1 : row.length ≤ 20) (hp : ms.Perm (List.range row.length)) (hz : (z == Str.ofString "history") = possB row ms) (q : De.rt (.py (.bool true))) :
    tailO S_verdict_holds [.shr (.py (tI row)), .shr (.py (tN ms)), .shr (.py (.tuple (.str z :: rest))), .shr (.py (tN (wrongL row ms))), .shr (.py (.tuple ((clashL row ms).map pairP))), .un, .un, .un] De := by
  simp [tailO, -forGo, -S_verdict_holds]
  refine ⟨by omega, ?_⟩
  rw [rangeP_eq]
  refine for_enc (encR 0) (fun i ρ => ∃ s5 s6, ρ = [.shr (.py (tI row)), .shr (.py (tN ms)), .shr (.py (.tuple (.str z :: rest))), .shr (.py (tN (wrongL row ms))), .shr (.py (.tuple ((clashL row ms).map pairP))), s5, s6, .un]) ⟨_, _, rfl⟩ (fun i k ρ hk iv nx ct hn => ?_) (fun ρ iv => ?_)
  · obtain ⟨s5, s6, rfl⟩ := iv
    obtain ⟨rfl, hk⟩ := range_get hk
    simp [encR, -S_verdict_holds]
    have hv2 : ∀ (w : Str) (r : List PyData), r.length ≤ 2 → (∀ y, PyData.str y ∉ r) → w.length ≤ 100000 → ∀ xs, PyData.tuple (.str w :: r) = .tuple xs → xs.length ≤ 1000 ∧ ∀ z, PyData.str z ∈ xs → z.length ≤ 100000 := fun w r hr hn hw xs e => by
      cases e
      refine ⟨by simp; omega, fun y hy => ?_⟩
      rcases List.mem_cons.mp hy with h | h
      · cases h; exact hw
      · exact absurd h (hn y)
    refine sHol h0 (by omega) hp (hv2 _ _ (by simp) (fun y => by simp) (by decide +kernel)) ?_
    rw [right_place (Nat.le_of_lt hk)]
    refine ⟨pl_pNs _, ?_⟩
    have ew : ((wrongL row ms).any ((fun y => y.eqv (PyData.int (k : Int))) ∘ pN)) = decide (k ∈ wrongL row ms) := by
      rw [Bool.eq_iff_iff, List.any_eq_true, decide_eq_true_eq]
      constructor
      · rintro ⟨x, hx, e⟩
        have e : (pN x).eqv (.int (k : Int)) = true := e
        rw [eqvN] at e
        have : x = k := by have := of_decide_eq_true e; omega
        exact this ▸ hx
      · intro h
        refine ⟨k, h, ?_⟩
        show (pN k).eqv (.int (k : Int)) = true
        rw [eqvN]; exact decide_eq_true rfl
    rw [ew]
    refine ⟨rfl, rfl, .inl (by simp [PyData.depth]), ?_⟩
    rw [plbool]
    rw [show ((row.length : Int) - 1 - (k : Int)) = ((row.length - 1 - k : Nat) : Int) by omega]
    simp [-S_verdict_holds]
    refine sHol h0 (by omega) hp (hv2 _ _ (by simp) (fun y => by simp) (by decide +kernel)) ?_
    rw [right_clash (Nat.le_of_lt hk) (by omega)]
    refine ⟨plain_pairP _, ?_⟩
    have ec : ((clashL row ms).any ((fun y => y.eqv (PyData.tuple [PyData.int (k : Int), PyData.int ((row.length - 1 - k : Nat) : Int)])) ∘ pairP)) = decide ((k, row.length - 1 - k) ∈ clashL row ms) := by
      rw [Bool.eq_iff_iff, List.any_eq_true, decide_eq_true_eq]
      constructor
      · rintro ⟨x, hx, e⟩
        have e : (pairP x).eqv (.tuple [.int (k : Int), .int ((row.length - 1 - k : Nat) : Int)]) = true := e
        rw [eqvP] at e
        exact of_decide_eq_true e ▸ hx
      · intro h
        refine ⟨_, h, ?_⟩
        show (pairP (k, row.length - 1 - k)).eqv (.tuple [.int (k : Int), .int ((row.length - 1 - k : Nat) : Int)]) = true
        rw [eqvP]; exact decide_eq_true rfl
    rw [ec]
    refine ⟨rfl, rfl, .inl (by simp [PyData.depth]), ?_⟩
    rw [plbool]
    exact (hn _ ⟨_, _, rfl⟩).1
  · obtain ⟨s5, s6, rfl⟩ := iv
    simp [tailO2, -S_verdict_holds]
    refine ⟨⟨by omega, by omega⟩, by omega, ?_⟩
    split
    · exact q
    · rename_i hne
      have npo : possB row ms = false := by rw [← hz]; exact beq_eq_false_iff_ne.mpr hne
      refine sHol h0 (by omega) hp (fun xs e => ?_) ?_
      · cases e
        refine ⟨by simp, fun y hy => ?_⟩
        simp only [List.mem_cons, List.not_mem_nil, or_false, PyData.str.injEq] at hy
        rcases hy with rfl | rfl
        · decide +kernel
        · simp; omega
      · rw [right_his rfl]
        have : hisB row ms (.str (mkS (List.replicate row.length 97 ++ List.replicate row.length 115))) = false := by
          rw [Bool.eq_false_iff]
          intro h
          have := possB_iff.mpr (his_poss hp h)
          rw [npo] at this; cases this
        rw [this]
        exact q
theorem l_law_one_right : ∀ ds Q E, S_law_one_right ds Q E → t_law_one_right S_clashes S_misplaced S_verdict S_is_possible S_verdict_holds (envOf 8 ds) (fin Q E) := by
  rintro ds Q E ⟨row, ms, rfl, h0, h1, hp, q⟩
  rw [t_law_one_right_eq]
  obtain ⟨z, rest, e, hz, hpl, pl, dp, hr, hs⟩ := verd_cases (row := row) (by omega) hp
  simp [-S_clashes, -S_misplaced, -S_verdict, -S_is_possible, -S_verdict_holds]
  refine sVer h0 (by omega) hp (sMis h0 (by omega) hp (sCla h0 (by omega) hp ?_))
  rw [e]
  simp [-S_is_possible, -S_verdict_holds]
  refine sPos h0 (by omega) hp ?_
  simp [hz, hpl, -S_is_possible, -S_verdict_holds]
  rw [if_pos (plbool _)]
  refine sPos h0 (by omega) hp ?_
  have wl := wrong_len row ms
  have cl := clash_len row ms
  have cl2 : row.length * row.length ≤ 20 * 20 := Nat.mul_le_mul h1 h1
  have ee : (List.map pN (wrongL row ms) ++ List.map pairP (clashL row ms)).isEmpty = possB row ms := by
    unfold possB
    cases wrongL row ms <;> cases clashL row ms <;> rfl
  rw [ee]
  refine ⟨by omega, rfl, rfl, .inl (by simp [PyData.depth]), ?_⟩
  simp [-S_verdict_holds]
  rw [if_pos (plbool _)]
  refine sHol h0 (by omega) hp (fun xs e => ?_) ?_
  · cases e
    exact ⟨by simp; omega, hs⟩
  have rv := right_verd hp
  rw [e] at rv
  rw [rv]
  simp
  rw [if_pos (plbool _)]
  exact tO_ok (De := ⟨_, Q, _, _, _, _⟩) h0 h1 hp hz q
theorem kind_plain (row : List Int) (ms : List Nat) : (PyData.tuple ((kindL row ms).map PyData.str)).plain = true := by
  show PyData.plainAll _ = true
  generalize kindL row ms = L
  induction L with
  | nil => rfl
  | cons x L ih => rw [List.map_cons, plainAll_cons, ih]; rfl
theorem strs_depth (L : List Str) : PyData.depthAll (L.map PyData.str) = 0 := by
  induction L with
  | nil => rfl
  | cons x L ih => rw [List.map_cons, depthAll_cons, ih]; rfl
theorem strs_plain (L : List Str) : (PyData.tuple (L.map PyData.str)).plain = true := by
  show PyData.plainAll _ = true
  induction L with
  | nil => rfl
  | cons x L ih => rw [List.map_cons, plainAll_cons, ih]; rfl
theorem kind_depth (row : List Int) (ms : List Nat) : (PyData.tuple ((kindL row ms).map PyData.str)).depth ≤ 60 := by
  simp only [PyData.depth, strs_depth]
  omega
theorem pl2 (a b : List Nat) : (PyData.tuple [tN a, tN b]).plain = true := by
  show PyData.plainAll [tN a, tN b] = true
  rw [plainAll_cons, plainAll_cons]
  have h1 : (tN a).plain = true := pl_pNs a
  have h2 : (tN b).plain = true := pl_pNs b
  rw [h1, h2]; rfl
theorem cut_last (xs : List PyData) (x : PyData) : cutL (xs ++ [x]) (some (-1)) none = [x] := by
  unfold cutL HT.sIx
  simp
  rw [show (-1 + ((xs.length : Int) + 1)).toNat = xs.length by omega, List.drop_left, show xs.length + 1 - xs.length = 1 by omega]
  rfl
theorem tA_ok {row : List Int} {ms : List Nat} {s2 s3 s4 : VL.Slot} {De : VEnds} (h0 : row ≠ []) (h1 : row.length ≤ 20) (hp : ms.Perm (List.range row.length)) (hz : (500000000 : Int) ∉ row) (q : De.rt (.py (.bool true))) :
    tailA S_kinds_of S_clashes S_is_possible S_bounds_of [.shr (.py (tI row)), .shr (.py (tN ms)), s2, s3, s4, .un, .un, .un, .un] De := by
  have hpos := List.length_pos_iff.mpr h0
  have pl := perm_len hp
  have hp' := more_perm (z := 500000000) hp
  have h0' : row ++ [(500000000 : Int)] ≠ [] := by simp
  have h1' : (row ++ [(500000000 : Int)]).length ≤ 40 := by simp; omega
  have er : PyData.tuple (row.map PyData.int ++ [PyData.int 500000000]) = tI (row ++ [500000000]) := by simp
  have em : PyData.tuple (ms.map pN ++ [PyData.int (row.length : Int)]) = tN (ms ++ [row.length]) := by simp [tN, pN]
  have em2 : PyData.tuple (ms.map pN ++ [pN row.length]) = tN (ms ++ [row.length]) := by simp [tN]
  simp [tailA, -S_kinds_of, -S_clashes, -S_is_possible, -S_bounds_of]
  refine ⟨by omega, by omega, ?_⟩
  rw [er, em]
  refine sKin h0' h1' hp' (sKin h0 (by omega) hp ?_)
  rw [more_kind hp hz]
  have kl : (kindL row ms).length = row.length := by simp [kindL]
  have ek : List.map PyData.str (kindL row ms) ++ [PyData.str (Str.ofString "leads")] = List.map PyData.str (kindL row ms ++ [Str.ofString "leads"]) := by simp
  refine ⟨by simp; omega, ?_⟩
  rw [ek]
  refine gne_self (p := .tuple (List.map PyData.str (kindL row ms ++ [Str.ofString "leads"]))) (strs_plain _) (by simp only [PyData.depth, strs_depth]; omega) ?_
  simp [-S_clashes, -S_is_possible, -S_bounds_of]
  rw [er, em2]
  refine sCla h0' h1' hp' ?_
  refine sCla h0 (by omega) hp ?_
  rw [more_clash hp hz]
  have hd := depth_pairP (clashL row ms)
  refine gne_self (p := .tuple (List.map pairP (clashL row ms))) (plain_pairP _) (by simp only [PyData.depth]; omega) ?_
  simp [tailA2, -S_is_possible, -S_bounds_of]
  refine sPos h0 (by omega) hp ?_
  cases hpo : possB row ms with
  | false =>
    simp [-S_is_possible, -S_bounds_of]
    rw [er, em2]
    refine sPos h0' h1' hp' ?_
    rw [more_poss hp hz, hpo]
    exact q
  | true =>
    simp [-S_is_possible, -S_bounds_of]
    refine sBnd h0 (by omega) hp (possB_iff.mp hpo) ?_
    simp [-S_is_possible, -S_bounds_of]
    rw [er, em2]
    refine sBnd h0' h1' hp' (possB_iff.mp (by rw [more_poss hp hz]; exact hpo)) ?_
    rw [more_csLo hp hz hpos, more_csHi hp hz hpos]
    obtain ⟨A, hA⟩ := csLo_last (row := row) (ms := ms) hpos
    have ll : (csLo row ms).length = row.length := by simp [csLo]
    have lh : (csHi row ms).length = row.length := by simp [csHi]
    have ec : cutL (List.map pN (csLo row ms)) (some (-1)) none = [pN (loS row ms (row.length - 1))] := by
      rw [hA, List.map_append]; exact cut_last _ _
    rw [ec]
    refine ⟨by simp; omega, by omega, ?_⟩
    have e1 : PyData.tuple (List.map pN (csLo row ms) ++ [pN (loS row ms (row.length - 1))]) = tN (csLo row ms ++ [loS row ms (row.length - 1)]) := by simp [tN]
    have e2 : PyData.tuple (List.map pN (csHi row ms) ++ [PyData.int (row.length : Int)]) = tN (csHi row ms ++ [row.length]) := by simp [tN, pN]
    rw [e1, e2]
    refine ⟨pl2 _ _, pl2 _ _, .inl ?_, ?_⟩
    · simp only [tN, PyData.depth, depthAll_cons, depthAll_nil, pn_depth]
      omega
    · rw [PySem.SeqAt.eqv_refl_plain _ (pl2 _ _)]
      exact q
@[simp] def S_law_alike : SV := fun ds Q _ => ∃ (row : List Int) (ms : List Nat) (row' : List Int), ds = [.py (tI row), .py (tN ms), .py (tI row')] ∧ row ≠ [] ∧ row.length ≤ 20 ∧ ms.Perm (List.range row.length) ∧ Same row row' ∧ (500000000 : Int) ∉ row ∧ Q (.py (.bool true))
theorem l_law_alike : ∀ ds Q E, S_law_alike ds Q E → t_law_alike S_verdict S_kinds_of S_clashes S_is_possible S_bounds_of (envOf 9 ds) (fin Q E) := by
  rintro ds Q E ⟨row, ms, row', rfl, h0, h1, hp, sm, hz, q⟩
  rw [t_law_alike_eq]
  have hpos := List.length_pos_iff.mpr h0
  have hp' : ms.Perm (List.range row'.length) := by rw [sm.len]; exact hp
  have h0' : row' ≠ [] := List.length_pos_iff.mp (by rw [sm.len]; exact hpos)
  have h1' : row'.length ≤ 40 := by rw [sm.len]; omega
  obtain ⟨z, rest, e, hz', hpl, pl, dp, hr, hs⟩ := verd_cases (row := row) (by omega) hp
  simp [-S_clashes, -S_verdict, -S_is_possible, -S_kinds_of, -S_bounds_of]
  refine sVer h0 (by omega) hp (sVer h0' h1' hp' (sKin h0' h1' hp' (sKin h0 (by omega) hp ?_)))
  rw [sm.verd, sm.kind]
  refine gne_self (kind_plain _ _) (kind_depth _ _) ?_
  rw [e]
  simp [-S_clashes, -S_verdict, -S_is_possible, -S_kinds_of, -S_bounds_of]
  rw [plainAll_cons] at pl
  rw [depthAll_cons] at dp
  split
  · exact tA_ok h0 h1 hp hz q
  · refine ⟨by simpa using pl, by omega, ?_⟩
    rw [if_pos (PySem.SeqAt.eqv_refl_plain _ (by show PyData.plainAll _ = true; rw [plainAll_cons]; exact pl))]
    exact tA_ok h0 h1 hp hz q
end LawP
set_option Elab.async false
set_option linter.all false
set_option maxRecDepth 100000
set_option maxHeartbeats 4000000
namespace LawP
open PySem PySem.Spec PyProof.Rows L2 VL
theorem intU : ∀ {L M : List Int}, L.Pairwise (· < ·) → M.Pairwise (· < ·) → (∀ w, w ∈ L ↔ w ∈ M) → L = M
  | [], [], _, _, _ => rfl
  | [], b :: M, _, _, h => absurd ((h b).mpr List.mem_cons_self) (by simp)
  | a :: L, [], _, _, h => absurd ((h a).mp List.mem_cons_self) (by simp)
  | a :: L, b :: M, h1, h2, h => by
    rw [List.pairwise_cons] at h1 h2
    have e : a = b := by
      rcases List.mem_cons.mp ((h a).mp List.mem_cons_self) with e | e
      · exact e
      · rcases List.mem_cons.mp ((h b).mpr List.mem_cons_self) with e2 | e2
        · exact e2.symm
        · have := h1.1 b e2
          have := h2.1 a e
          omega
    subst e
    rw [intU h1.2 h2.2 fun w => ?_]
    constructor
    · intro hw
      rcases List.mem_cons.mp ((h w).mp (List.mem_cons_of_mem _ hw)) with e | e
      · subst e; have := h1.1 w hw; omega
      · exact e
    · intro hw
      rcases List.mem_cons.mp ((h w).mpr (List.mem_cons_of_mem _ hw)) with e | e
      · subst e; have := h2.1 w hw; omega
      · exact e
def toI : PyData → Int
  | .int i => i
  | _ => 0
theorem perm_pI {ys : List PyData} {L : List Int} (h : ys.Perm (L.map PyData.int)) : ∃ ms : List Int, ys = ms.map PyData.int ∧ ms.Perm L := by
  have tm : ∀ L : List Int, (L.map PyData.int).map toI = L := fun L => by
    rw [List.map_map]; exact List.map_id L
  refine ⟨ys.map toI, ?_, by have := h.map toI; rwa [tm] at this⟩
  rw [List.map_map]
  have : ∀ y ∈ ys, (PyData.int ∘ toI) y = y := fun y hy => by
    obtain ⟨k, _, rfl⟩ := List.mem_map.mp ((h.mem_iff).mp hy)
    rfl
  exact ((List.map_congr_left this).trans (List.map_id ys)).symm
@[simp] def S_j_rowB (r : Addr) : SV
  | [.raw v, .py (.int m)], Q, _ => v = .ref r ∧ 1 ≤ m ∧ m ≤ 40 ∧ ∀ gs : List Int, gs ≠ [] → gs.length ≤ m → (∀ g ∈ gs, g < 40 ∨ 999999960 < g) → Q (.py (tI gs))
  | _, _, _ => False
def okG2 (p : PyData) : Prop := ∃ g : Int, p = .int g ∧ (g < 40 ∨ 999999960 < g)
theorem okG2_list : ∀ {ps : List PyData}, (∀ p ∈ ps, okG2 p) → ∃ gs : List Int, ps = gs.map PyData.int ∧ ∀ g ∈ gs, g < 40 ∨ 999999960 < g
  | [], _ => ⟨[], rfl, by simp⟩
  | p :: ps, h => by
    obtain ⟨g, rfl, h1⟩ := h p List.mem_cons_self
    obtain ⟨gs, rfl, h3⟩ := okG2_list (ps := ps) fun q hq => h q (List.mem_cons_of_mem _ hq)
    refine ⟨g :: gs, rfl, fun x hx => ?_⟩
    rcases List.mem_cons.mp hx with rfl | hx
    · exact h1
    · exact h3 x hx
theorem l_j_rowB (r : Addr) : ∀ ds Q E, S_j_rowB r ds Q E → t_j_row (svTake r) (envOf 7 ds) (fin Q E)
  | [.raw v, .py (.int m)], Q, E, ⟨hv, h1, h2, q⟩ => by
    subst hv
    simp [t_j_row, -lcGo]
    refine ⟨by omega, by omega, fun x x0 x1 y y0 y1 => ?_⟩
    obtain ⟨d, hd, hm⟩ := atI_ok (xs := [PyData.int 1, PyData.int 2, PyData.int 3, PyData.int 4, PyData.int (1 + x)]) (i := y) (by omega) (by simp; omega)
    obtain ⟨kn, rfl, k1, k2⟩ : ∃ kn : Int, d = .int kn ∧ 1 ≤ kn ∧ kn ≤ 40 := by
      simp only [List.mem_cons, List.not_mem_nil, or_false] at hm
      rcases hm with rfl | rfl | rfl | rfl | rfl <;> exact ⟨_, rfl, by omega, by omega⟩
    refine ⟨_, hd, ?_⟩
    simp [-lcGo]
    refine ⟨by omega, ?_⟩
    rw [rangeP_eq]
    refine lc_mem okG2 (fun p hp k hk => ?_) (by simp; omega) fun ps pl hps => ?_
    · obtain ⟨i, hi, rfl⟩ := List.mem_map.mp hp
      have hi := List.mem_range.mp hi
      simp [lcStep]
      intro z z0 z1
      obtain ⟨e, he, hme⟩ := atI_ok (xs := [PyData.int (i : Nat), PyData.int (1000000000 - (i : Nat))]) (i := z) (by omega) (by simp; omega)
      refine ⟨e, he, hk e ?_⟩
      simp only [List.mem_cons, List.not_mem_nil, or_false] at hme
      rcases hme with rfl | rfl <;> exact ⟨_, rfl, by omega⟩
    · have pl' : ps.length = kn.toNat := by rw [pl]; simp
      simp [-lcGo]
      refine ⟨by omega, ?_⟩
      rw [← List.map_map]
      refine lc_mem okG2 (fun p hp k hk => ?_) (by simp; omega) fun qs ql hqs => ?_
      · simp [lcStep]
        refine ⟨by omega, by omega, fun z z0 z1 => ?_⟩
        obtain ⟨e, he, hme⟩ := atI_ok (xs := ps) (i := z) (by omega) (by omega)
        exact ⟨e, he, hk e (hps e hme)⟩
      · obtain ⟨gs, rfl, hg⟩ := okG2_list hqs
        have ql' : gs.length = (1 + x).toNat := by simpa using ql
        simp
        exact q gs (fun e => by subst e; simp at ql'; omega) (by omega) hg
theorem tL_ok (r : Addr) {s0 s2 s3 s4 s5 s6 s7 s8 s9 s10 : VL.Slot} {De : VEnds} (q : De.rt (.py (.bool true))) :
    tailL S_possible_orders (svTake r) S_is_possible [s0, .shr (.raw (.ref r)), s2, s3, s4, s5, s6, s7, s8, s9, s10] De := by
  simp [tailL, -S_possible_orders, -S_is_possible, -List.reduceReplicate]
  intro x x0 x1
  obtain ⟨n, rfl⟩ : ∃ n : Nat, x = n := ⟨x.toNat, by omega⟩
  have en : (1 + (n : Int)).toNat = n + 1 := by omega
  rw [en]
  have eR : rangeP 0 (n + 1) = (List.range (n + 1)).map pN := rangeP_pN _
  have eR2 : (rangeP 0 (n + 1)) = ((List.range (n + 1)).map fun k : Nat => (k : Int)).map PyData.int := by rw [eR, List.map_map]; rfl
  refine ⟨by omega, by omega, ⟨by omega, by omega⟩, List.replicate (n + 1) 7, by simp, by simp, by simp; omega, fun _ => ?_, fun h => by simp at h; omega⟩
  rw [pos_one (by omega) (by omega)]
  have eP : PyData.tuple [PyData.tuple (rangeP 0 (n + 1))] = .tuple (List.map tI [oI (List.range (n + 1))]) := by
    rw [eR]
    show _ = PyData.tuple [tI (oI (List.range (n + 1)))]
    rw [tI_oI]; rfl
  rw [eP]
  generalize hP : PyData.tuple (List.map tI [oI (List.range (n + 1))]) = P
  have pl : P.plain = true := by rw [← hP]; exact tIs_plain _
  have dp : P.depth ≤ 60 := by
    rw [← hP]
    show (PyData.tuple [tI (oI (List.range (n + 1)))]).depth ≤ 60
    simp only [PyData.depth, depthAll_cons, depthAll_nil, tI_depth]
    omega
  refine (show ∀ Q : D → Prop, Q (.py (.bool false)) → gNe (.py P) (.py P) Q from fun Q q => gne_self pl dp q) _ ?_
  simp only [Bool.false_eq_true, if_false]
  refine ⟨by omega, by omega, ((List.range (n + 1)).map fun k : Nat => (k : Int)), by rw [eR2]; rfl, by simp, by simp; omega, fun _ => ?_, fun h => by simp at h; omega⟩
  rw [pos_all (by omega) (by omega)]
  rw [hP]
  refine (show ∀ Q : D → Prop, Q (.py (.bool false)) → gNe (.py P) (.py P) Q from fun Q q => gne_self pl dp q) _ ?_
  simp only [Bool.false_eq_true, if_false]
  have e40 : rangeP 0 40 = (List.range 40).map pN := rangeP_pN 40
  rw [e40]
  have p1 := poss_id (List.replicate 40 7)
  have p2 := poss_id ((List.range 40).map fun k : Nat => (k : Int))
  rw [List.length_replicate] at p1
  rw [List.length_map, List.length_range] at p2
  have e7 : PyData.tuple (List.replicate 40 (PyData.int 7)) = tI (List.replicate 40 7) := by simp [-List.reduceReplicate]
  rw [e7]
  refine sPos (by simp [-List.reduceReplicate]) (by rw [List.length_replicate]; omega) (by rw [List.length_replicate]) ?_
  rw [possB_iff.mpr p1]
  refine sPos (row := (List.range 40).map fun k : Nat => (k : Int)) (by simp) (by simp) (by simp) ?_
  rw [possB_iff.mpr p2]
  exact q
theorem nm_map {row ks ns : List Int} (hm : ∀ j, j ∈ ks ↔ j ∈ row) (hk : ks.Nodup) (hn : ns.Perm ks) : ∃ f : Int → Int, (∀ g ∈ row, ks.idxOf g < ns.length ∧ ns[ks.idxOf g]? = some (f g)) ∧ ∀ a ∈ row, ∀ b ∈ row, f a = f b → a = b := by
  have hl : ns.length = ks.length := hn.length_eq
  have hnn : ns.Nodup := hn.nodup_iff.mpr hk
  refine ⟨fun g => (ns[ks.idxOf g]?).getD 0, fun g hg => ?_, fun a ha b hb e => ?_⟩
  · have hk := List.idxOf_lt_length_of_mem ((hm g).mpr hg)
    refine ⟨by omega, ?_⟩
    show _ = some ((ns[ks.idxOf g]?).getD 0)
    rw [List.getElem?_eq_getElem (by omega)]; rfl
  · have h1 := List.idxOf_lt_length_of_mem ((hm a).mpr ha)
    have h2 := List.idxOf_lt_length_of_mem ((hm b).mpr hb)
    have e : (ns[ks.idxOf a]?).getD 0 = (ns[ks.idxOf b]?).getD 0 := e
    rw [List.getElem?_eq_getElem (by omega), List.getElem?_eq_getElem (by omega)] at e
    have e : ns[ks.idxOf a] = ns[ks.idxOf b] := e
    have hi : ks.idxOf a = ks.idxOf b := by
      have h3 := hnn
      rw [List.nodup_iff_pairwise_ne] at h3
      rcases Nat.lt_trichotomy (ks.idxOf a) (ks.idxOf b) with h | h | h
      · exact absurd e (List.pairwise_iff_getElem.mp h3 _ _ _ _ h)
      · exact h
      · exact absurd e.symm (List.pairwise_iff_getElem.mp h3 _ _ _ _ h)
    have e1 := List.getElem_idxOf h1
    have e2 := List.getElem_idxOf h2
    rw [← e1, ← e2]
    simp only [hi]
theorem ix_ofI : ∀ {L : List Int} {g : Int}, g ∈ L → ixOf (L.map PyData.int) (.int g) = some (L.idxOf g)
  | [], _, h => by cases h
  | x :: L, g, h => by
    rw [List.map_cons, ixOf, List.idxOf_cons]
    by_cases e : x = g
    · subst e; simp
    · have hg : g ∈ L := by
        rcases List.mem_cons.mp h with h | h
        · exact absurd h.symm e
        · exact h
      have e1 : (PyData.int x).eqv (.int g) = false := by simp [e]
      have e2 : (x == g) = false := by simp [e]
      rw [e1, e2, ix_ofI hg]
      rfl
theorem tT_ok (r : Addr) {row : List Int} {ms : List Nat} (h0 : row ≠ []) (h1 : row.length ≤ 20) (hg : ∀ g ∈ row, g < 40 ∨ 999999960 < g) (hp : ms.Perm (List.range row.length)) {s0 s2 s5 s6 s7 s8 s9 : VL.Slot} {De : VEnds}
    (k : ∀ s5 s6 s7, De.nx [s0, .shr (.raw (.ref r)), s2, .shr (.py (tI row)), .shr (.py (tN ms)), s5, s6, s7, s8, s9, .un]) :
    tailT (S_j_mixed r) (S_j_swapped r) S_law_one_right S_law_alike [s0, .shr (.raw (.ref r)), s2, .shr (.py (tI row)), .shr (.py (tN ms)), s5, s6, s7, s8, s9, .un] De := by
  simp [tailT, -forGo, -lcGo, -S_law_one_right, -S_law_alike, -S_j_mixed, -S_j_swapped]
  refine ⟨row, VL.allI_map row, by omega, fun ks hs hm => ?_⟩
  have hk : ks.Nodup := hs.imp fun h => Int.ne_of_lt h
  have hkl : ks.length ≤ 20 := by
    have := VL.nodup_le hk fun x hx => (hm x).mp hx
    omega
  refine ⟨ks.map PyData.int, _, rfl, .inl rfl, by simp; omega, fun ys hy => ?_⟩
  obtain ⟨ns, rfl, hn⟩ := perm_pI hy
  obtain ⟨f, hf1, hf2⟩ := nm_map hm hk hn
  refine lc_encM' PyData.int (fun g => PyData.int (f g)) (fun j g hj kk k1 => ?_) (by omega) ?_
  · obtain ⟨jl, e3⟩ := hf1 g (List.mem_of_getElem? hj)
    have hgk := (hm g).mpr (List.mem_of_getElem? hj)
    simp [lcStep]
    refine ⟨row, VL.allI_map row, by omega, fun ks' hs' hm' => ?_⟩
    obtain rfl := intU hs' hs fun w => (hm' w).trans (hm w).symm
    exact ⟨_, ix_ofI hgk, _, atI_map e3, k1⟩
  · have hsm : Same row (row.map f) := same_map hf2
    simp [-forGo, -S_law_one_right, -S_law_alike, -S_j_mixed, -S_j_swapped]
    have pl := perm_len hp
    have hpos := List.length_pos_iff.mpr h0
    refine ⟨ms, rfl, List.length_pos_iff.mp (by omega), by omega, fun n1 hn1 => ?_⟩
    refine ⟨ms.map pN, _, rfl, .inr rfl, by simp; omega, fun ys hys => ?_⟩
    obtain ⟨n2, rfl, hn2⟩ := perm_pN hys
    simp [pys, -forGo, -S_law_one_right, -S_law_alike]
    have all : ∀ m ∈ [ms, n1, n2], m.Perm (List.range row.length) := by
      intro m h
      simp only [List.mem_cons, List.not_mem_nil, or_false] at h
      rcases h with rfl | rfl | rfl
      · exact hp
      · exact hn1.trans hp
      · exact hn2.trans hp
    have eo : PyData.tuple (List.map (fun g => PyData.int (f g)) row) = tI (row.map f) := by
      show _ = PyData.tuple ((row.map f).map PyData.int)
      rw [List.map_map]; rfl
    rw [eo]
    have hz : (500000000 : Int) ∉ row := fun h => by have := hg _ h; omega
    refine for_enc tN (L := [ms, n1, n2]) (fun i ρ => ∃ s7, ρ = [s0, Slot.shr (D.raw (V.ref r)), s2, .shr (.py (tI row)), .shr (.py (tN ms)), Slot.shr (D.py (PyData.tuple (List.map PyData.int ns))), .shr (.py (tI (row.map f))), s7, s8, s9, Slot.un]) ⟨_, rfl⟩ (fun i m ρ hm iv nx ct hn => ?_) (fun ρ iv => ?_)
    · obtain ⟨s7, rfl⟩ := iv
      have hpm := all m (List.mem_of_getElem? hm)
      simp [-S_law_one_right, -S_law_alike]
      refine ⟨row, m, rfl, h0, h1, hpm, ?_⟩
      simp [-S_law_alike]
      refine ⟨row, m, row.map f, by simp, h0, h1, hpm, hsm, hz, ?_⟩
      have h := (hn _ ⟨.shr (.py (tN m)), rfl⟩).1
      simpa using h
    · obtain ⟨s7, rfl⟩ := iv
      exact k _ _ _
theorem l_law (r : Addr) : t_law (S_j_rowB r) S_possible_orders (svTake r) S_count_possible (S_j_mixed r) (S_j_swapped r) S_law_one_right S_law_alike S_is_possible (envBag 11 1 r) (fin isTrue' noE) := by
  rw [t_law_eq]
  simp [envBag, -forGo, -S_possible_orders, -S_count_possible, -S_law_one_right, -S_law_alike, -S_is_possible, -S_j_mixed, -S_j_swapped]
  refine ⟨by decide, for_inv (fun i ρ => ∃ s2 s3 s4 s5 s6 s7, ρ = [.un, .shr (.raw (.ref r)), s2, s3, s4, s5, s6, s7, .un, .un, .un]) (fun i x ρ hx iv nx ct hn => ?_) (fun ρ iv => ?_) ⟨_, _, _, _, _, _, rfl⟩⟩
  · obtain ⟨s2, s3, s4, s5, s6, s7, rfl⟩ := iv
    obtain ⟨hi, rfl⟩ := rangeP_get hx
    have fin1 : ∀ (row : List Int) (ms : List Nat) (bk : VEnv → Prop) (ex : VEnv → Er → Prop) (ro : _), row ≠ [] → row.length ≤ 20 → (∀ g ∈ row, g < 40 ∨ 999999960 < g) → ms.Perm (List.range row.length) → tailT (S_j_mixed r) (S_j_swapped r) S_law_one_right S_law_alike [.un, .shr (.raw (.ref r)), .shr (.py (.int (i : Int))), .shr (.py (tI row)), .shr (.py (tN ms)), s5, s6, s7, .un, .un, .un] ⟨nx, isTrue', bk, ct, ex, ro⟩ := fun row ms bk ex ro g0 gl hg hp => tT_ok r g0 gl hg hp fun s5 s6 s7 => (hn _ ⟨_, _, _, _, _, _, rfl⟩).1
    have hd : ∃ m : Int, atI [PyData.int 20, PyData.int 6, PyData.int 10] ((i : Int) % 3) = some (.int m) ∧ 1 ≤ m ∧ m ≤ 20 := by
      rcases (by omega : (i : Int) % 3 = 0 ∨ (i : Int) % 3 = 1 ∨ (i : Int) % 3 = 2) with e | e | e
      · rw [e]; exact ⟨20, rfl, by omega, by omega⟩
      · rw [e]; exact ⟨6, rfl, by omega, by omega⟩
      · rw [e]; exact ⟨10, rfl, by omega, by omega⟩
    obtain ⟨m, hm, m0, m1⟩ := hd
    simp [-forGo, -S_possible_orders, -S_count_possible, hm]
    refine ⟨m0, by omega, fun row g0 gl hg => ?_⟩
    have gl : row.length ≤ 20 := by omega
    have hpos := List.length_pos_iff.mpr g0
    have hrange := fin1 row (List.range row.length)
    have er : tN (List.range row.length) = .tuple (rangeP 0 row.length) := by rw [rangeP_pN]; rfl
    refine ⟨by omega, ?_⟩
    have go2 := fin1 row (List.range row.length)
    rw [er] at go2
    split
    · split
      · rename_i h11
        have h10 : row.length ≤ 10 := by omega
        refine ⟨row, rfl, g0, by omega, fun _ => ⟨row, rfl, g0, by omega, fun _ => ⟨rfl, ?_, ?_, fun x x0 x1 => ?_⟩, fun h => by omega⟩, fun h => by omega⟩
        · have := posO_pos row; omega
        · have := posO_few h10; omega
        · obtain ⟨d, hd, hmd⟩ := atI_ok (xs := (posO row).map tI) (i := x) (by omega) (by simp; omega)
          refine ⟨d, hd, ?_⟩
          obtain ⟨l, hl, rfl⟩ := List.mem_map.mp hmd
          obtain ⟨ns, rfl, hp, _⟩ := posO_mem.mp hl
          rw [tI_oI]
          exact fin1 row ns _ _ _ g0 gl hg hp
      · exact go2 _ _ _ g0 gl hg (.refl _)
    · exact go2 _ _ _ g0 gl hg (.refl _)
  · obtain ⟨s2, s3, s4, s5, s6, s7, rfl⟩ := iv
    exact tL_ok r rfl
end LawP
set_option Elab.async false
set_option linter.all false
set_option maxRecDepth 100000
set_option maxHeartbeats 4000000
namespace LawP
open PySem PySem.Spec PyProof.Rows L2 VL
abbrev topS (i : Nat) : Stmt := PySem.Challenge.pw_matesline_k23_whole_one_verdict_of_three.main.body.getD i (.Pass ⟨0, 0, 0, 0⟩)
section
variable {P : Program} {w : World} {K : PySem.W.Frag} {mg : Str → Option Value} {base : Heap} {b : Bg} {f : Addr} {fd : FuncData}
abbrev s_TooLarge : Stmt := clsDef (topS 5) 0
theorem sc_TooLarge : FnScope ["self", "limit"] ["self", "limit"] (defScope s_TooLarge) := ⟨rfl, rfl, rfl, by decide +kernel, rfl, by decide +kernel, by decide +kernel⟩
theorem wi_TooLarge {fa : Addr} (F : Fun K "__init__" "TooLarge.__init__" s_TooLarge fa fd) : FnOk P w K mg base (L2.CX P w) 1 fa fd ["self", "limit"] (spInit K "limit") := ok_init F sc_TooLarge rfl rfl rfl (by decide) (by decide)
abbrev s_j_row : Stmt := topS 43
abbrev N_j_row : List Str := ["_law_jug_here", "_law_people", "_law_many", "_law_kinds", "_law_names", "_law_k", "_law_person"]
theorem sc_j_row : FnScope N_j_row ["_law_jug_here", "_law_people"] (defScope s_j_row) := ⟨rfl, rfl, rfl, by decide +kernel, rfl, by decide +kernel, by decide +kernel⟩
theorem w_j_row {S : SV} {S_law_pour : SV} (F : Fun K "_law_row" "_law_row" s_j_row f fd) (F_law_pour : Cal P w K mg base b 1 "_law_pour" ["_law_jug_here", "_law_many"] S_law_pour) (n_range : mg "range" = none) (n_tuple : mg "tuple" = none) (hlen : ∀ ds Q E, S ds Q E → ds.length = 2)
    (law : ∀ ds Q E, S ds Q E → t_j_row S_law_pour (envOf 7 ds) (fin Q E)) : FnOk P w K mg base (L2.CX P w) 2 f fd ["_law_jug_here", "_law_people"] (spV b S) := by
  refine fnV F sc_j_row hlen (by decide) (fun cdv A outer s H E hr tk => ?_) law
  exact (vs_cons (vs_asg (i := 2) sc_j_row.nd rfl (.inl rfl) (ve_add (VE.toX ve_int) (VE.toX (ve_cal F_law_pour hr tk (by rfl) (va_cons (ve_var (pv 0)) (va_cons (ve_var (pv 1)) va_nil))))))
      (vs_cons (vs_asg (i := 3) sc_j_row.nd rfl (.inr rfl) (ve_ix (VN.toX (vn_lst (va_cons ve_int (va_cons ve_int (va_cons ve_int (va_cons ve_int (va_cons (ve_var (pv 2)) va_nil))))))) (VE.toX (ve_cal F_law_pour hr tk (by rfl) (va_cons (ve_var (pv 0)) (va_cons ve_int va_nil))))))
      (vs_cons (vs_asg (i := 4) sc_j_row.nd rfl (.inr rfl) (VN.toE (vn_lc (own := [("_law_k", 5)]) rfl sc_j_row.nd (vib_range1 (by rfl) n_range (vxs_cons (vx_var (pv 3)) vxs_nil)) (blkOk_by (N := N_j_row) (sc := defScope s_j_row) (by decide +kernel)) (by decide) (fun _ _ _ _ _ => (vg_name (i := 5) sc_j_row.nd rfl (.inl rfl))) (fun _ _ _ _ _ => vts_nil) (fun _ _ _ _ _ => (ve_ix (VN.toX (vn_lst (va_cons (ve_var (pv 5)) (va_cons (ve_sub (VE.toX (ve_pow (VE.toX ve_int) (VE.toX ve_int))) (vx_var (pv 5))) va_nil)))) (VE.toX (ve_cal F_law_pour hr takes0 (by rfl) (va_cons (ve_var (pv 0)) (va_cons ve_int va_nil)))))))))
      (vs_one (vs_ret (ve_tupleC (by rfl) n_tuple (vxs_cons (VN.toX (vn_lc (own := [("_law_person", 6)]) rfl sc_j_row.nd (vib_range1 (by rfl) n_range (vxs_cons (vx_var (pv 2)) vxs_nil)) (blkOk_by (N := N_j_row) (sc := defScope s_j_row) (by decide +kernel)) (by decide) (fun _ _ _ _ _ => (vg_name (i := 6) sc_j_row.nd rfl (.inl rfl))) (fun _ _ _ _ _ => vts_nil) (fun _ _ _ _ _ => (ve_ix (vx_var (pv 4)) (VE.toX (ve_cal F_law_pour hr takes0 (by rfl) (va_cons (ve_var (pv 0)) (va_cons (ve_var (pv 3)) va_nil)))))))) vxs_nil)))))))
abbrev s_j_mixed : Stmt := topS 45
abbrev N_j_mixed : List Str := ["_law_jug_here", "_law_items", "_law_left", "_law_found"]
theorem sc_j_mixed : FnScope N_j_mixed ["_law_jug_here", "_law_items"] (defScope s_j_mixed) := ⟨rfl, rfl, rfl, by decide +kernel, rfl, by decide +kernel, by decide +kernel⟩
theorem w_j_mixed {S : SV} {S_law_pour : SV} (F : Fun K "_law_mixed" "_law_mixed" s_j_mixed f fd) (F_law_pour : Cal P w K mg base b 1 "_law_pour" ["_law_jug_here", "_law_many"] S_law_pour) (n_list : mg "list" = none) (n_len : mg "len" = none) (n_tuple : mg "tuple" = none) (hlen : ∀ ds Q E, S ds Q E → ds.length = 2)
    (law : ∀ ds Q E, S ds Q E → t_j_mixed S_law_pour (envOf 4 ds) (fin Q E)) : FnOk P w K mg base (L2.CX P w) 2 f fd ["_law_jug_here", "_law_items"] (spV b S) := by
  refine fnV F sc_j_mixed hlen (by decide) (fun cdv A outer s H E hr tk => ?_) law
  have hu := hr.units
  exact (vs_cons (vs_par2 (i := 2) (j := 3) rfl sc_j_mixed.nd rfl rfl (by decide) rfl rfl (vm_nw (vn_listC (by rfl) n_list (vxs_cons (vx_var (pv 1)) vxs_nil)) (vm_nw (vn_lst va_nil) vm_nil)) (by rfl))
      (vs_cons (vs_while (passes_of rfl) (vt_ne hu (vx_var (pv 2)) (VN.toX (vn_lst va_nil)))
      (vs_one (vs_popApp (pv 3) (pv 2) (ve_cal F_law_pour hr tk (by rfl) (va_cons (ve_var (pv 0)) (va_cons (ve_len (by rfl) n_len (vxs_cons (vx_var (pv 2)) vxs_nil)) va_nil))))))
      (vs_one (vs_ret (ve_tupleC (by rfl) n_tuple (vxs_cons (vx_var (pv 3)) vxs_nil))))))
abbrev s_is_number : Stmt := topS 16
abbrev N_is_number : List Str := ["value", "low", "high"]
theorem sc_is_number : FnScope N_is_number ["value", "low", "high"] (defScope s_is_number) := ⟨rfl, rfl, rfl, by decide +kernel, rfl, by decide +kernel, by decide +kernel⟩
theorem w_is_number {S : SV} (F : Fun K "is_number" "is_number" s_is_number f fd) (n_isinstance : mg "isinstance" = none) (n_bool : mg "bool" = none) (n_int : mg "int" = none) (hlen : ∀ ds Q E, S ds Q E → ds.length = 3)
    (law : ∀ ds Q E, S ds Q E → t_is_number (envOf 3 ds) (fin Q E)) : FnOk P w K mg base (L2.CX P w) 1 f fd ["value", "low", "high"] (spV b S) := by
  refine fnV F sc_is_number hlen (by decide) (fun cdv A outer s H E hr tk => ?_) law
  exact (vs_one (vs_ret (ve_and (VE.toX (ve_isi (by rfl) n_isinstance (vxs_cons (vx_var (pv 0)) (vxs_cons (VE.toX (ve_tyInt (by rfl) n_int)) vxs_nil)))) (ve_and (VE.toX (ve_not (VE.toX (ve_isi (by rfl) n_isinstance (vxs_cons (vx_var (pv 0)) (vxs_cons (VE.toX (ve_tyBool (by rfl) n_bool)) vxs_nil)))))) (ve_one (ve_le2 (vx_var (pv 1)) (vx_var (pv 0)) (vx_var (pv 2))))))))
abbrev s_is_order : Stmt := topS 17
abbrev N_is_order : List Str := ["row", "value", "person"]
theorem sc_is_order : FnScope N_is_order ["row", "value"] (defScope s_is_order) := ⟨rfl, rfl, rfl, by decide +kernel, rfl, by decide +kernel, by decide +kernel⟩
theorem w_is_order {S : SV} {S_is_number : SV} (F : Fun K "is_order" "is_order" s_is_order f fd) (F_is_number : Cal P w K mg base b 1 "is_number" ["value", "low", "high"] S_is_number) (n_isinstance : mg "isinstance" = none) (n_tuple : mg "tuple" = none) (n_len : mg "len" = none) (n_set : mg "set" = none) (n_all : mg "all" = none) (hlen : ∀ ds Q E, S ds Q E → ds.length = 2)
    (law : ∀ ds Q E, S ds Q E → t_is_order S_is_number (envOf 3 ds) (fin Q E)) : FnOk P w K mg base (L2.CX P w) 2 f fd ["row", "value"] (spV b S) := by
  refine fnV F sc_is_order hlen (by decide) (fun cdv A outer s H E hr tk => ?_) law
  have hu := hr.units
  exact (vs_cons (vs_if (VWe.pt (vw_or (vt_not (vt_val (VE.toX (ve_isi (by rfl) n_isinstance (vxs_cons (vx_var (pv 1)) (vxs_cons (VE.toX (ve_tyTuple (by rfl) n_tuple)) vxs_nil)))))) (vw_or1 (vt_ne hu (VE.toX (ve_len (by rfl) n_len (vxs_cons (vx_var (pv 1)) vxs_nil))) (VE.toX (ve_len (by rfl) n_len (vxs_cons (vx_var (pv 0)) vxs_nil)))))))
      (vs_one (vs_ret ve_bl))
      vs_nil)
      (vs_one (vs_ret (ve_and (VE.toX (ve_all rfl (by rfl) n_all (vxs_cons (VN.toX (vn_lc (own := [("person", 2)]) rfl sc_is_order.nd (vib_src (vx_var (pv 1))) (blkOk_by (N := N_is_order) (sc := defScope s_is_order) (by decide +kernel)) (by decide) (fun _ _ _ _ _ => (vg_name (i := 2) sc_is_order.nd rfl (.inl rfl))) (fun _ _ _ _ _ => vts_nil) (fun _ _ _ _ _ => (ve_cal F_is_number hr takes0 (by rfl) (va_cons (ve_var (pv 2)) (va_cons ve_int (va_cons (ve_sub (VE.toX (ve_len (by rfl) n_len (vxs_cons (vx_var (pv 0)) vxs_nil))) (VE.toX ve_int)) va_nil))))))) vxs_nil))) (ve_one (ve_eq hu (VE.toX (ve_lenSet rfl (by rfl) n_len (by rfl) n_set (vx_var (pv 1)))) (VE.toX (ve_len (by rfl) n_len (vxs_cons (vx_var (pv 0)) vxs_nil)))))))))
abbrev s_require_order : Stmt := topS 18
abbrev N_require_order : List Str := ["row", "value"]
theorem sc_require_order : FnScope N_require_order ["row", "value"] (defScope s_require_order) := ⟨rfl, rfl, rfl, by decide +kernel, rfl, by decide +kernel, by decide +kernel⟩
theorem w_require_order {S : SV} {S_is_order : SV} (F : Fun K "require_order" "require_order" s_require_order f fd) (F_is_order : Cal P w K mg base b 2 "is_order" ["row", "value"] S_is_order) (M_NoOrder : Mk0 K mg b "NoOrder") (hlen : ∀ ds Q E, S ds Q E → ds.length = 2)
    (law : ∀ ds Q E, S ds Q E → t_require_order S_is_order (envOf 2 ds) (fin Q E)) : FnOk P w K mg base (L2.CX P w) 3 f fd ["row", "value"] (spV b S) := by
  refine fnV F sc_require_order hlen (by decide) (fun cdv A outer s H E hr tk => ?_) law
  exact (vs_one (vs_if (vt_not (vt_val (VE.toX (ve_cal F_is_order hr tk (by rfl) (va_cons (ve_var (pv 0)) (va_cons (ve_var (pv 1)) va_nil))))))
      (vs_one (vs_raise0 M_NoOrder rfl tk (by rfl)))
      vs_nil))
abbrev s_places_in : Stmt := topS 19
abbrev N_places_in : List Str := ["order", "found", "place", "person"]
theorem sc_places_in : FnScope N_places_in ["order"] (defScope s_places_in) := ⟨rfl, rfl, rfl, by decide +kernel, rfl, by decide +kernel, by decide +kernel⟩
theorem w_places_in {S : SV} (F : Fun K "places_in" "places_in" s_places_in f fd) (n_len : mg "len" = none) (n_enumerate : mg "enumerate" = none) (hlen : ∀ ds Q E, S ds Q E → ds.length = 1)
    (law : ∀ ds Q E, S ds Q E → t_places_in (envOf 4 ds) (fin Q E)) : FnOk P w K mg base (L2.CX P w) 1 f fd ["order"] (spV b S) := by
  refine fnV F sc_places_in hlen (by decide) (fun cdv A outer s H E hr tk => ?_) law
  exact (vs_cons (vs_asgN (i := 1) sc_places_in.nd rfl (.inl rfl) (vn_mul (VN.toX (vn_lst (va_cons ve_int va_nil))) (VE.toX (ve_len (by rfl) n_len (vxs_cons (vx_var (pv 0)) vxs_nil)))))
      (vs_cons (vs_for (passes_of rfl) rfl (vi_enum (by rfl) n_enumerate (va_cons (ve_var (pv 0)) va_nil)) (vg_tup rfl (vgs_cons (vg_name (i := 2) sc_places_in.nd rfl (.inl rfl)) (vgs_cons (vg_name (i := 3) sc_places_in.nd rfl (.inl rfl)) vgs_nil)))
      (vs_one (vs_stoL (pv 1) (ve_var (pv 3)) (ve_var (pv 2)))))
      (vs_one (vs_frz 1 (vs_ret (ve_var (pv 1)))))))
abbrev s_mates : Stmt := topS 7
abbrev N_mates : List Str := ["row", "found", "last", "person", "group"]
theorem sc_mates : FnScope N_mates ["row"] (defScope s_mates) := ⟨rfl, rfl, rfl, by decide +kernel, rfl, by decide +kernel, by decide +kernel⟩
theorem w_mates {S : SV} (F : Fun K "mates" "mates" s_mates f fd) (n_enumerate : mg "enumerate" = none) (n_tuple : mg "tuple" = none) (hlen : ∀ ds Q E, S ds Q E → ds.length = 1)
    (law : ∀ ds Q E, S ds Q E → t_mates (envOf 5 ds) (fin Q E)) : FnOk P w K mg base (L2.CX P w) 1 f fd ["row"] (spV b S) := by
  refine fnV F sc_mates hlen (by decide) (fun cdv A outer s H E hr tk => ?_) law
  exact (vs_cons (vs_par2 (i := 1) (j := 2) rfl sc_mates.nd rfl rfl (by decide) rfl rfl (vm_nw (vn_lst va_nil) (vm_nw vn_dict0 vm_nil)) (by rfl))
      (vs_cons (vs_for (passes_of rfl) rfl (vi_enum (by rfl) n_enumerate (va_cons (ve_var (pv 0)) va_nil)) (vg_tup rfl (vgs_cons (vg_name (i := 3) sc_mates.nd rfl (.inl rfl)) (vgs_cons (vg_name (i := 4) sc_mates.nd rfl (.inl rfl)) vgs_nil)))
      (vs_cons (vs_app (pv 1) (va_cons (ve_dget2 (hu_of hr) (vx_var (pv 2)) (ve_var (pv 4)) ve_non ⟨rfl, rfl, rfl, rfl⟩) va_nil))
      (vs_one (vs_dputO (hu_of hr) (pv 2) (ve_var (pv 4)) (ve_var (pv 3))))))
      (vs_one (vs_ret (ve_tupleC (by rfl) n_tuple (vxs_cons (vx_var (pv 1)) vxs_nil))))))
abbrev s_kind_of : Stmt := topS 20
abbrev N_kind_of : List Str := ["is_near", "is_ahead"]
theorem sc_kind_of : FnScope N_kind_of ["is_near", "is_ahead"] (defScope s_kind_of) := ⟨rfl, rfl, rfl, by decide +kernel, rfl, by decide +kernel, by decide +kernel⟩
theorem w_kind_of {S : SV} (F : Fun K "kind_of" "kind_of" s_kind_of f fd) (c_BOTH : ∃ t, mg "BOTH" = some (.str "both" t)) (c_NEAR : ∃ t, mg "NEAR" = some (.str "near" t)) (c_LEADS : ∃ t, mg "LEADS" = some (.str "leads" t)) (c_NONE : ∃ t, mg "NONE" = some (.str "none" t)) (hlen : ∀ ds Q E, S ds Q E → ds.length = 2)
    (law : ∀ ds Q E, S ds Q E → t_kind_of (envOf 2 ds) (fin Q E)) : FnOk P w K mg base (L2.CX P w) 1 f fd ["is_near", "is_ahead"] (spV b S) := by
  refine fnV F sc_kind_of hlen (by decide) (fun cdv A outer s H E hr tk => ?_) law
  exact (vs_cons (vs_if (vt_val (vx_var (pv 0)))
      (vs_one (vs_ret (ve_if (vt_val (vx_var (pv 1))) (ve_gstr (by rfl) c_BOTH) (ve_gstr (by rfl) c_NEAR))))
      vs_nil)
      (vs_one (vs_ret (ve_if (vt_val (vx_var (pv 1))) (ve_gstr (by rfl) c_LEADS) (ve_gstr (by rfl) c_NONE)))))
abbrev s_kinds_of : Stmt := topS 21
abbrev N_kinds_of : List Str := ["row", "order", "places", "found", "last", "place", "mate", "is_near"]
theorem sc_kinds_of : FnScope N_kinds_of ["row", "order"] (defScope s_kinds_of) := ⟨rfl, rfl, rfl, by decide +kernel, rfl, by decide +kernel, by decide +kernel⟩
theorem w_kinds_of {S : SV} {S_require_order : SV} {S_places_in : SV} {S_mates : SV} {S_kind_of : SV} (F : Fun K "kinds_of" "kinds_of" s_kinds_of f fd) (F_require_order : Cal P w K mg base b 3 "require_order" ["row", "value"] S_require_order) (F_places_in : Cal P w K mg base b 1 "places_in" ["order"] S_places_in) (F_mates : Cal P w K mg base b 1 "mates" ["row"] S_mates) (F_kind_of : Cal P w K mg base b 1 "kind_of" ["is_near", "is_ahead"] S_kind_of) (n_zip : mg "zip" = none) (n_max : mg "max" = none) (n_tuple : mg "tuple" = none) (hlen : ∀ ds Q E, S ds Q E → ds.length = 2)
    (law : ∀ ds Q E, S ds Q E → t_kinds_of S_require_order S_places_in S_mates S_kind_of (envOf 8 ds) (fin Q E)) : FnOk P w K mg base (L2.CX P w) 4 f fd ["row", "order"] (spV b S) := by
  refine fnV F sc_kinds_of hlen (by decide) (fun cdv A outer s H E hr tk => ?_) law
  have hu := hr.units
  exact (vs_cons (vs_expr (ve_cal F_require_order hr tk (by rfl) (va_cons (ve_var (pv 0)) (va_cons (ve_var (pv 1)) va_nil))))
      (vs_cons (vs_par3 (i := 2) (j := 3) (k := 4) rfl sc_kinds_of.nd rfl rfl rfl (by decide) (by decide) (by decide) rfl rfl rfl (vm_sh (ve_cal F_places_in hr tk (by rfl) (va_cons (ve_var (pv 1)) va_nil)) (vm_nw (vn_lst va_nil) (vm_sh (ve_neg (VE.toX ve_int)) vm_nil))) (by rfl))
      (vs_cons (vs_for (passes_of rfl) rfl (vi_zip2 (by rfl) n_zip (va_cons (ve_var (pv 2)) (va_cons (ve_cal F_mates hr tk (by rfl) (va_cons (ve_var (pv 0)) va_nil)) va_nil))) (vg_tup rfl (vgs_cons (vg_name (i := 5) sc_kinds_of.nd rfl (.inl rfl)) (vgs_cons (vg_name (i := 6) sc_kinds_of.nd rfl (.inl rfl)) vgs_nil)))
      (vs_cons (vs_asg (i := 7) sc_kinds_of.nd rfl (.inl rfl) (ve_and (VE.toX (ve_notN (vx_var (pv 6)) (VE.toX ve_non))) (ve_one (ve_eq hu (vx_var (pv 5)) (VE.toX (ve_add (VE.toX (ve_ix (vx_var (pv 2)) (vx_var (pv 6)))) (VE.toX ve_int)))))))
      (vs_cons (vs_app (pv 3) (va_cons (ve_cal F_kind_of hr tk (by rfl) (va_cons (ve_var (pv 7)) (va_cons (ve_gt (vx_var (pv 5)) (vx_var (pv 4))) va_nil))) va_nil))
      (vs_one (vs_asg (i := 4) sc_kinds_of.nd rfl (.inl rfl) (ve_max rfl (by rfl) n_max (vxs_cons (vx_var (pv 4)) (vxs_cons (vx_var (pv 5)) vxs_nil))))))))
      (vs_one (vs_ret (ve_tupleC (by rfl) n_tuple (vxs_cons (vx_var (pv 3)) vxs_nil)))))))
abbrev s_misplaced : Stmt := topS 22
abbrev N_misplaced : List Str := ["row", "order", "person", "kind"]
theorem sc_misplaced : FnScope N_misplaced ["row", "order"] (defScope s_misplaced) := ⟨rfl, rfl, rfl, by decide +kernel, rfl, by decide +kernel, by decide +kernel⟩
theorem w_misplaced {S : SV} {S_kinds_of : SV} (F : Fun K "misplaced" "misplaced" s_misplaced f fd) (F_kinds_of : Cal P w K mg base b 4 "kinds_of" ["row", "order"] S_kinds_of) (c_NONE : ∃ t, mg "NONE" = some (.str "none" t)) (n_tuple : mg "tuple" = none) (n_enumerate : mg "enumerate" = none) (hlen : ∀ ds Q E, S ds Q E → ds.length = 2)
    (law : ∀ ds Q E, S ds Q E → t_misplaced S_kinds_of (envOf 4 ds) (fin Q E)) : FnOk P w K mg base (L2.CX P w) 5 f fd ["row", "order"] (spV b S) := by
  refine fnV F sc_misplaced hlen (by decide) (fun cdv A outer s H E hr tk => ?_) law
  have hu := hr.units
  exact (vs_one (vs_ret (ve_tupleC (by rfl) n_tuple (vxs_cons (VN.toX (vn_lc (own := [("person", 2), ("kind", 3)]) rfl sc_misplaced.nd (vib_enum (by rfl) n_enumerate (vxs_cons (VE.toX (ve_cal F_kinds_of hr tk (by rfl) (va_cons (ve_var (pv 0)) (va_cons (ve_var (pv 1)) va_nil)))) vxs_nil)) (blkOk_by (N := N_misplaced) (sc := defScope s_misplaced) (by decide +kernel)) (by decide) (fun _ _ _ _ _ => (vg_tup rfl (vgs_cons (vg_name (i := 2) sc_misplaced.nd rfl (.inl rfl)) (vgs_cons (vg_name (i := 3) sc_misplaced.nd rfl (.inl rfl)) vgs_nil)))) (fun _ _ _ _ _ => (vts_one (vt_eq hu (vx_var (pv 3)) (VE.toX (ve_gstr (by rfl) c_NONE))))) (fun _ _ _ _ _ => (ve_var (pv 2))))) vxs_nil))))
abbrev s_least_counts : Stmt := topS 23
abbrev N_least_counts : List Str := ["row", "order", "kinds", "places", "found", "kind", "mate"]
theorem sc_least_counts : FnScope N_least_counts ["row", "order"] (defScope s_least_counts) := ⟨rfl, rfl, rfl, by decide +kernel, rfl, by decide +kernel, by decide +kernel⟩
theorem w_least_counts {S : SV} {S_places_in : SV} {S_kinds_of : SV} {S_mates : SV} (F : Fun K "least_counts" "least_counts" s_least_counts f fd) (F_places_in : Cal P w K mg base b 1 "places_in" ["order"] S_places_in) (F_kinds_of : Cal P w K mg base b 4 "kinds_of" ["row", "order"] S_kinds_of) (F_mates : Cal P w K mg base b 1 "mates" ["row"] S_mates) (c_LEADS : ∃ t, mg "LEADS" = some (.str "leads" t)) (n_zip : mg "zip" = none) (hlen : ∀ ds Q E, S ds Q E → ds.length = 2)
    (law : ∀ ds Q E, S ds Q E → t_least_counts S_places_in S_kinds_of S_mates (envOf 7 ds) (fin Q E)) : FnOk P w K mg base (L2.CX P w) 5 f fd ["row", "order"] (spV b S) := by
  refine fnV F sc_least_counts hlen (by decide) (fun cdv A outer s H E hr tk => ?_) law
  have hu := hr.units
  exact (vs_cons (vs_par3 (i := 2) (j := 3) (k := 4) rfl sc_least_counts.nd rfl rfl rfl (by decide) (by decide) (by decide) rfl rfl rfl (vm_sh (ve_cal F_kinds_of hr tk (by rfl) (va_cons (ve_var (pv 0)) (va_cons (ve_var (pv 1)) va_nil))) (vm_sh (ve_cal F_places_in hr tk (by rfl) (va_cons (ve_var (pv 1)) va_nil)) (vm_nw (vn_lst va_nil) vm_nil))) (by rfl))
      (vs_cons (vs_for (passes_of rfl) rfl (vi_zip2 (by rfl) n_zip (va_cons (ve_var (pv 2)) (va_cons (ve_cal F_mates hr tk (by rfl) (va_cons (ve_var (pv 0)) va_nil)) va_nil))) (vg_tup rfl (vgs_cons (vg_name (i := 5) sc_least_counts.nd rfl (.inl rfl)) (vgs_cons (vg_name (i := 6) sc_least_counts.nd rfl (.inl rfl)) vgs_nil)))
      (vs_one (vs_app (pv 4) (va_cons (ve_if (VWe.pt (vw_and (vt_eq hu (vx_var (pv 5)) (VE.toX (ve_gstr (by rfl) c_LEADS))) (vw_and1 (vt_notN (vx_var (pv 6)) (VE.toX ve_non))))) (ve_add (VE.toX (ve_ix (vx_var (pv 3)) (vx_var (pv 6)))) (VE.toX ve_int)) ve_int) va_nil))))
      (vs_one (vs_frz 4 (vs_ret (ve_var (pv 4)))))))
abbrev s_greatest_counts : Stmt := topS 24
abbrev N_greatest_counts : List Str := ["row", "order", "kinds", "places", "found", "kind", "mate", "place"]
theorem sc_greatest_counts : FnScope N_greatest_counts ["row", "order"] (defScope s_greatest_counts) := ⟨rfl, rfl, rfl, by decide +kernel, rfl, by decide +kernel, by decide +kernel⟩
theorem w_greatest_counts {S : SV} {S_places_in : SV} {S_kinds_of : SV} {S_mates : SV} (F : Fun K "greatest_counts" "greatest_counts" s_greatest_counts f fd) (F_places_in : Cal P w K mg base b 1 "places_in" ["order"] S_places_in) (F_kinds_of : Cal P w K mg base b 4 "kinds_of" ["row", "order"] S_kinds_of) (F_mates : Cal P w K mg base b 1 "mates" ["row"] S_mates) (c_NEAR : ∃ t, mg "NEAR" = some (.str "near" t)) (n_zip : mg "zip" = none) (hlen : ∀ ds Q E, S ds Q E → ds.length = 2)
    (law : ∀ ds Q E, S ds Q E → t_greatest_counts S_places_in S_kinds_of S_mates (envOf 8 ds) (fin Q E)) : FnOk P w K mg base (L2.CX P w) 5 f fd ["row", "order"] (spV b S) := by
  refine fnV F sc_greatest_counts hlen (by decide) (fun cdv A outer s H E hr tk => ?_) law
  have hu := hr.units
  exact (vs_cons (vs_par3 (i := 2) (j := 3) (k := 4) rfl sc_greatest_counts.nd rfl rfl rfl (by decide) (by decide) (by decide) rfl rfl rfl (vm_sh (ve_cal F_kinds_of hr tk (by rfl) (va_cons (ve_var (pv 0)) (va_cons (ve_var (pv 1)) va_nil))) (vm_sh (ve_cal F_places_in hr tk (by rfl) (va_cons (ve_var (pv 1)) va_nil)) (vm_nw (vn_lst va_nil) vm_nil))) (by rfl))
      (vs_cons (vs_for (passes_of rfl) rfl (vi_zip3 (by rfl) n_zip (va_cons (ve_var (pv 2)) (va_cons (ve_cal F_mates hr tk (by rfl) (va_cons (ve_var (pv 0)) va_nil)) (va_cons (ve_var (pv 3)) va_nil)))) (vg_tup rfl (vgs_cons (vg_name (i := 5) sc_greatest_counts.nd rfl (.inl rfl)) (vgs_cons (vg_name (i := 6) sc_greatest_counts.nd rfl (.inl rfl)) (vgs_cons (vg_name (i := 7) sc_greatest_counts.nd rfl (.inl rfl)) vgs_nil))))
      (vs_one (vs_app (pv 4) (va_cons (ve_if (vt_eq hu (vx_var (pv 5)) (VE.toX (ve_gstr (by rfl) c_NEAR))) (ve_ix (vx_var (pv 3)) (vx_var (pv 6))) (ve_var (pv 7))) va_nil))))
      (vs_one (vs_frz 4 (vs_ret (ve_var (pv 4)))))))
abbrev s_clashes : Stmt := topS 25
abbrev N_clashes : List Str := ["row", "order", "low", "high", "pairs", "one", "other"]
theorem sc_clashes : FnScope N_clashes ["row", "order"] (defScope s_clashes) := ⟨rfl, rfl, rfl, by decide +kernel, rfl, by decide +kernel, by decide +kernel⟩
theorem w_clashes {S : SV} {S_greatest_counts : SV} {S_least_counts : SV} (F : Fun K "clashes" "clashes" s_clashes f fd) (F_greatest_counts : Cal P w K mg base b 5 "greatest_counts" ["row", "order"] S_greatest_counts) (F_least_counts : Cal P w K mg base b 5 "least_counts" ["row", "order"] S_least_counts) (n_range : mg "range" = none) (n_len : mg "len" = none) (n_tuple : mg "tuple" = none) (hlen : ∀ ds Q E, S ds Q E → ds.length = 2)
    (law : ∀ ds Q E, S ds Q E → t_clashes S_greatest_counts S_least_counts (envOf 7 ds) (fin Q E)) : FnOk P w K mg base (L2.CX P w) 6 f fd ["row", "order"] (spV b S) := by
  refine fnV F sc_clashes hlen (by decide) (fun cdv A outer s H E hr tk => ?_) law
  exact (vs_cons (vs_parT (is := [2, 3]) rfl (pgs_cons (pg_name (i := 2) sc_clashes.nd rfl (.inr rfl)) (pgs_cons (pg_name (i := 3) sc_clashes.nd rfl (.inr rfl)) pgs_nil)) (vm_sh (ve_cal F_least_counts hr tk (by rfl) (va_cons (ve_var (pv 0)) (va_cons (ve_var (pv 1)) va_nil))) (vm_sh (ve_cal F_greatest_counts hr tk (by rfl) (va_cons (ve_var (pv 0)) (va_cons (ve_var (pv 1)) va_nil))) vm_nil)))
      (vs_cons (vs_asgN (i := 4) sc_clashes.nd rfl (.inl rfl) (vn_lst va_nil))
      (vs_cons (vs_for (passes_of rfl) rfl (vi_range1 (by rfl) n_range (vxs_cons (VE.toX (ve_len (by rfl) n_len (vxs_cons (vx_var (pv 0)) vxs_nil))) vxs_nil)) (vg_name (i := 5) sc_clashes.nd rfl (.inr rfl))
      (vs_one (vs_ext (pv 4) (va_cons (VN.toE (vn_lc (own := [("other", 6)]) rfl sc_clashes.nd (vib_range2 (by rfl) n_range (vxs_cons (VE.toX (ve_add (vx_var (pv 5)) (VE.toX ve_int))) (vxs_cons (VE.toX (ve_len (by rfl) n_len (vxs_cons (vx_var (pv 0)) vxs_nil))) vxs_nil))) (blkOk_by (N := N_clashes) (sc := defScope s_clashes) (by decide +kernel)) (by decide) (fun _ _ _ _ _ => (vg_name (i := 6) sc_clashes.nd rfl (.inl rfl))) (fun _ _ _ _ _ => (vts_one (vt_gt (VE.toX (ve_ix (vx_var (pv 2)) (vx_var (pv 5)))) (VE.toX (ve_ix (vx_var (pv 3)) (vx_var (pv 6))))))) (fun _ _ _ _ _ => (ve_tup (va_cons (ve_var (pv 5)) (va_cons (ve_var (pv 6)) va_nil)))))) va_nil))))
      (vs_one (vs_ret (ve_tupleC (by rfl) n_tuple (vxs_cons (vx_var (pv 4)) vxs_nil)))))))
abbrev s_is_possible : Stmt := topS 26
abbrev N_is_possible : List Str := ["row", "order"]
theorem sc_is_possible : FnScope N_is_possible ["row", "order"] (defScope s_is_possible) := ⟨rfl, rfl, rfl, by decide +kernel, rfl, by decide +kernel, by decide +kernel⟩
theorem w_is_possible {S : SV} {S_clashes : SV} {S_misplaced : SV} (F : Fun K "is_possible" "is_possible" s_is_possible f fd) (F_clashes : Cal P w K mg base b 6 "clashes" ["row", "order"] S_clashes) (F_misplaced : Cal P w K mg base b 5 "misplaced" ["row", "order"] S_misplaced) (hlen : ∀ ds Q E, S ds Q E → ds.length = 2)
    (law : ∀ ds Q E, S ds Q E → t_is_possible S_clashes S_misplaced (envOf 2 ds) (fin Q E)) : FnOk P w K mg base (L2.CX P w) 7 f fd ["row", "order"] (spV b S) := by
  refine fnV F sc_is_possible hlen (by decide) (fun cdv A outer s H E hr tk => ?_) law
  have hu := hr.units
  exact (vs_one (vs_ret (ve_and (VE.toX (ve_eq hu (VE.toX (ve_cal F_misplaced hr tk (by rfl) (va_cons (ve_var (pv 0)) (va_cons (ve_var (pv 1)) va_nil)))) (VE.toX (ve_tup va_nil)))) (ve_one (ve_eq hu (VE.toX (ve_cal F_clashes hr tk (by rfl) (va_cons (ve_var (pv 0)) (va_cons (ve_var (pv 1)) va_nil)))) (VE.toX (ve_tup va_nil)))))))
abbrev s_j_swapped : Stmt := topS 46
abbrev N_j_swapped : List Str := ["_law_jug_here", "_law_order", "_law_found", "_law_turn", "_law_person"]
theorem sc_j_swapped : FnScope N_j_swapped ["_law_jug_here", "_law_order"] (defScope s_j_swapped) := ⟨rfl, rfl, rfl, by decide +kernel, rfl, by decide +kernel, by decide +kernel⟩
theorem w_j_swapped {S : SV} {S_law_pour : SV} (F : Fun K "_law_swapped" "_law_swapped" s_j_swapped f fd) (F_law_pour : Cal P w K mg base b 1 "_law_pour" ["_law_jug_here", "_law_many"] S_law_pour) (n_list : mg "list" = none) (n_range : mg "range" = none) (n_len : mg "len" = none) (n_tuple : mg "tuple" = none) (hlen : ∀ ds Q E, S ds Q E → ds.length = 2)
    (law : ∀ ds Q E, S ds Q E → t_j_swapped S_law_pour (envOf 5 ds) (fin Q E)) : FnOk P w K mg base (L2.CX P w) 2 f fd ["_law_jug_here", "_law_order"] (spV b S) := by
  refine fnV F sc_j_swapped hlen (by decide) (fun cdv A outer s H E hr tk => ?_) law
  exact (vs_cons (vs_asgN (i := 2) sc_j_swapped.nd rfl (.inl rfl) (vn_listC (by rfl) n_list (vxs_cons (vx_var (pv 1)) vxs_nil)))
      (vs_cons (vs_for (passes_of rfl) rfl (vi_range1 (by rfl) n_range (vxs_cons (VE.toX (ve_add (VE.toX ve_int) (VE.toX (ve_cal F_law_pour hr tk (by rfl) (va_cons (ve_var (pv 0)) (va_cons ve_int va_nil)))))) vxs_nil)) (vg_name (i := 3) sc_j_swapped.nd rfl (.inl rfl))
      (vs_cons (vs_popSet (i := 4) sc_j_swapped.nd rfl (.inl rfl) (pv 2) (ve_cal F_law_pour hr tk (by rfl) (va_cons (ve_var (pv 0)) (va_cons (ve_len (by rfl) n_len (vxs_cons (vx_var (pv 2)) vxs_nil)) va_nil))))
      (vs_one (vs_ins (pv 2) (va_cons (ve_cal F_law_pour hr tk (by rfl) (va_cons (ve_var (pv 0)) (va_cons (ve_add (VE.toX (ve_len (by rfl) n_len (vxs_cons (vx_var (pv 2)) vxs_nil))) (VE.toX ve_int)) va_nil))) (va_cons (ve_var (pv 4)) va_nil))))))
      (vs_one (vs_ret (ve_tupleC (by rfl) n_tuple (vxs_cons (vx_var (pv 2)) vxs_nil))))))
abbrev s_require_short : Stmt := topS 37
abbrev N_require_short : List Str := ["row"]
theorem sc_require_short : FnScope N_require_short ["row"] (defScope s_require_short) := ⟨rfl, rfl, rfl, by decide +kernel, rfl, by decide +kernel, by decide +kernel⟩
theorem w_require_short {S : SV} (F : Fun K "require_short" "require_short" s_require_short f fd) (c_SMALL : ∃ t, mg "SMALL" = some (.int 10 t)) (n_len : mg "len" = none) (M_TooLarge : Mk1 P w K mg base b "TooLarge" "limit") (hlen : ∀ ds Q E, S ds Q E → ds.length = 1)
    (law : ∀ ds Q E, S ds Q E → t_require_short (envOf 1 ds) (fin Q E)) : FnOk P w K mg base (L2.CX P w) 3 f fd ["row"] (spV b S) := by
  refine fnV F sc_require_short hlen (by decide) (fun cdv A outer s H E hr tk => ?_) law
  exact (vs_one (vs_if (vt_gt (VE.toX (ve_len (by rfl) n_len (vxs_cons (vx_var (pv 0)) vxs_nil))) (VE.toX (ve_gint (by rfl) c_SMALL)))
      (vs_one (vs_raise1 M_TooLarge hr rfl tk (by rfl) (ve_gint (by rfl) c_SMALL)))
      vs_nil))
abbrev s_order_of_joiners : Stmt := topS 35
abbrev N_order_of_joiners : List Str := ["row", "joiners", "found", "person", "mate", "places", "low", "high", "last"]
theorem sc_order_of_joiners : FnScope N_order_of_joiners ["row", "joiners"] (defScope s_order_of_joiners) := ⟨rfl, rfl, rfl, by decide +kernel, rfl, by decide +kernel, by decide +kernel⟩
theorem w_order_of_joiners {S : SV} {S_mates : SV} {S_places_in : SV} (F : Fun K "order_of_joiners" "order_of_joiners" s_order_of_joiners f fd) (F_mates : Cal P w K mg base b 1 "mates" ["row"] S_mates) (F_places_in : Cal P w K mg base b 1 "places_in" ["order"] S_places_in) (n_enumerate : mg "enumerate" = none) (n_len : mg "len" = none) (n_range : mg "range" = none) (n_max : mg "max" = none) (n_min : mg "min" = none) (n_tuple : mg "tuple" = none) (hlen : ∀ ds Q E, S ds Q E → ds.length = 2)
    (law : ∀ ds Q E, S ds Q E → t_order_of_joiners S_mates S_places_in (envOf 9 ds) (fin Q E)) : FnOk P w K mg base (L2.CX P w) 2 f fd ["row", "joiners"] (spV b S) := by
  refine fnV F sc_order_of_joiners hlen (by decide) (fun cdv A outer s H E hr tk => ?_) law
  have hu := hr.units
  exact (vs_cons (vs_asgN (i := 2) sc_order_of_joiners.nd rfl (.inl rfl) (vn_lst va_nil))
      (vs_cons (vs_for (passes_of rfl) rfl (vi_enum (by rfl) n_enumerate (va_cons (ve_cal F_mates hr tk (by rfl) (va_cons (ve_var (pv 0)) va_nil)) va_nil)) (vg_tup rfl (vgs_cons (vg_name (i := 3) sc_order_of_joiners.nd rfl (.inl rfl)) (vgs_cons (vg_name (i := 4) sc_order_of_joiners.nd rfl (.inl rfl)) vgs_nil)))
      (vs_one (vs_ins (pv 2) (va_cons (ve_if (vt_in hu (vx_var (pv 3)) (vx_var (pv 1))) (ve_add (VE.toX (ve_mth (mx_index (hu65 hr)) (vx_var (pv 2)) (vxs_cons (vx_var (pv 4)) vxs_nil))) (VE.toX ve_int)) (ve_len (by rfl) n_len (vxs_cons (vx_var (pv 2)) vxs_nil))) (va_cons (ve_var (pv 3)) va_nil)))))
      (vs_cons (vs_frz 2 (vs_par3 (i := 5) (j := 6) (k := 7) rfl sc_order_of_joiners.nd rfl rfl rfl (by decide) (by decide) (by decide) rfl rfl rfl (vm_sh (ve_cal F_places_in hr tk (by rfl) (va_cons (ve_var (pv 2)) va_nil)) (vm_nw (vn_lst va_nil) (vm_nw (vn_lst va_nil) vm_nil))) (by rfl)))
      (vs_cons (vs_for (passes_of rfl) rfl (vi_enum (by rfl) n_enumerate (va_cons (ve_cal F_mates hr tk (by rfl) (va_cons (ve_var (pv 0)) va_nil)) va_nil)) (vg_tup rfl (vgs_cons (vg_name (i := 3) sc_order_of_joiners.nd rfl (.inl rfl)) (vgs_cons (vg_name (i := 4) sc_order_of_joiners.nd rfl (.inl rfl)) vgs_nil)))
      (vs_cons (vs_app (pv 6) (va_cons (ve_if (VWe.pt (vw_and (vt_notN (vx_var (pv 4)) (VE.toX ve_non)) (vw_and1 (vt_notIn hu (vx_var (pv 3)) (vx_var (pv 1)))))) (ve_add (VE.toX (ve_ix (vx_var (pv 5)) (vx_var (pv 4)))) (VE.toX ve_int)) ve_int) va_nil))
      (vs_one (vs_app (pv 7) (va_cons (ve_if (vt_in hu (vx_var (pv 3)) (vx_var (pv 1))) (ve_ix (vx_var (pv 5)) (vx_var (pv 4))) (ve_ix (vx_var (pv 5)) (vx_var (pv 3)))) va_nil)))))
      (vs_cons (vs_asg (i := 8) sc_order_of_joiners.nd rfl (.inl rfl) ve_int)
      (vs_cons (vs_for (passes_of rfl) rfl (vi_range1 (by rfl) n_range (vxs_cons (VE.toX (ve_len (by rfl) n_len (vxs_cons (vx_var (pv 0)) vxs_nil))) vxs_nil)) (vg_name (i := 3) sc_order_of_joiners.nd rfl (.inl rfl))
      (vs_cons (vs_asg (i := 8) sc_order_of_joiners.nd rfl (.inl rfl) (ve_max rfl (by rfl) n_max (vxs_cons (vx_var (pv 8)) (vxs_cons (VE.toX (ve_ix (vx_var (pv 6)) (vx_var (pv 3)))) vxs_nil))))
      (vs_one (vs_if (vt_gt (vx_var (pv 8)) (VE.toX (ve_min rfl (by rfl) n_min (vxs_cons (VE.toX (ve_sl (vx_var (pv 7)) (vo_at (vx_var (pv 3))) vo_no)) vxs_nil))))
      (vs_one (vs_ret ve_non))
      vs_nil))))
      (vs_one (vs_ret (ve_tupleC (by rfl) n_tuple (vxs_cons (vx_var (pv 2)) vxs_nil))))))))))
abbrev s_choices : Stmt := topS 36
abbrev N_choices : List Str := ["row", "found", "person", "mate", "some"]
theorem sc_choices : FnScope N_choices ["row"] (defScope s_choices) := ⟨rfl, rfl, rfl, by decide +kernel, rfl, by decide +kernel, by decide +kernel⟩
theorem w_choices {S : SV} {S_mates : SV} (F : Fun K "choices" "choices" s_choices f fd) (F_mates : Cal P w K mg base b 1 "mates" ["row"] S_mates) (n_enumerate : mg "enumerate" = none) (hlen : ∀ ds Q E, S ds Q E → ds.length = 1)
    (law : ∀ ds Q E, S ds Q E → t_choices S_mates (envOf 5 ds) (fin Q E)) : FnOk P w K mg base (L2.CX P w) 2 f fd ["row"] (spV b S) := by
  refine fnV F sc_choices hlen (by decide) (fun cdv A outer s H E hr tk => ?_) law
  exact (vs_cons (vs_asg (i := 1) sc_choices.nd rfl (.inl rfl) (VN.toE (vn_lst (va_cons (ve_tup va_nil) va_nil))))
      (vs_cons (vs_for (passes_of rfl) rfl (vi_enum (by rfl) n_enumerate (va_cons (ve_cal F_mates hr tk (by rfl) (va_cons (ve_var (pv 0)) va_nil)) va_nil)) (vg_tup rfl (vgs_cons (vg_name (i := 2) sc_choices.nd rfl (.inr rfl)) (vgs_cons (vg_name (i := 3) sc_choices.nd rfl (.inl rfl)) vgs_nil)))
      (vs_one (vs_if (vt_notN (vx_var (pv 3)) (VE.toX ve_non))
      (vs_one (vs_asg (i := 1) sc_choices.nd rfl (.inl rfl) (ve_add (vx_var (pv 1)) (VN.toX (vn_lc (own := [("some", 4)]) rfl sc_choices.nd (vib_src (vx_var (pv 1))) (blkOk_by (N := N_choices) (sc := defScope s_choices) (by decide +kernel)) (by decide) (fun _ _ _ _ _ => (vg_name (i := 4) sc_choices.nd rfl (.inl rfl))) (fun _ _ _ _ _ => vts_nil) (fun _ _ _ _ _ => (ve_tup (va_star (ve_var (pv 4)) (va_cons (ve_var (pv 2)) va_nil)))))))))
      vs_nil)))
      (vs_one (vs_ret (ve_var (pv 1))))))
abbrev s_possible_orders : Stmt := topS 38
abbrev N_possible_orders : List Str := ["row", "orders", "some", "order"]
theorem sc_possible_orders : FnScope N_possible_orders ["row"] (defScope s_possible_orders) := ⟨rfl, rfl, rfl, by decide +kernel, rfl, by decide +kernel, by decide +kernel⟩
theorem w_possible_orders {S : SV} {S_require_short : SV} {S_choices : SV} {S_order_of_joiners : SV} (F : Fun K "possible_orders" "possible_orders" s_possible_orders f fd) (F_require_short : Cal P w K mg base b 3 "require_short" ["row"] S_require_short) (F_choices : Cal P w K mg base b 2 "choices" ["row"] S_choices) (F_order_of_joiners : Cal P w K mg base b 2 "order_of_joiners" ["row", "joiners"] S_order_of_joiners) (n_tuple : mg "tuple" = none) (n_sorted : mg "sorted" = none) (n_set : mg "set" = none) (hlen : ∀ ds Q E, S ds Q E → ds.length = 1)
    (law : ∀ ds Q E, S ds Q E → t_possible_orders S_require_short S_choices S_order_of_joiners (envOf 4 ds) (fin Q E)) : FnOk P w K mg base (L2.CX P w) 4 f fd ["row"] (spV b S) := by
  refine fnV F sc_possible_orders hlen (by decide) (fun cdv A outer s H E hr tk => ?_) law
  have hu := hr.units
  exact (vs_cons (vs_expr (ve_cal F_require_short hr tk (by rfl) (va_cons (ve_var (pv 0)) va_nil)))
      (vs_cons (vs_setLcE (i := 1) (own := [("some", 2)]) rfl sc_possible_orders.nd rfl rfl (by rfl) (vib_src (VE.toX (ve_cal F_choices hr tk (by rfl) (va_cons (ve_var (pv 0)) va_nil)))) (blkOk_by (N := N_possible_orders) (sc := defScope s_possible_orders) (by decide +kernel)) (by decide) (fun _ _ _ _ _ => (vg_name (i := 2) sc_possible_orders.nd rfl (.inl rfl))) (fun _ _ _ _ _ => vts_nil) (fun _ _ _ _ _ => (ve_cal F_order_of_joiners hr takes0 (by rfl) (va_cons (ve_var (pv 0)) (va_cons (ve_var (pv 2)) va_nil)))))
      (vs_one (vs_ret (ve_tupleC (by rfl) n_tuple (vxs_cons (VE.toX (ve_sortSetT rfl hu (by rfl) n_sorted (by rfl) n_set (VN.toX (vn_lc (own := [("order", 3)]) rfl sc_possible_orders.nd (vib_src (vx_var (pv 1))) (blkOk_by (N := N_possible_orders) (sc := defScope s_possible_orders) (by decide +kernel)) (by decide) (fun _ _ _ _ _ => (vg_name (i := 3) sc_possible_orders.nd rfl (.inl rfl))) (fun _ _ _ _ _ => (vts_one (vt_notN (vx_var (pv 3)) (VE.toX ve_non)))) (fun _ _ _ _ _ => (ve_var (pv 3))))))) vxs_nil))))))
abbrev s_count_possible : Stmt := topS 39
abbrev N_count_possible : List Str := ["row"]
theorem sc_count_possible : FnScope N_count_possible ["row"] (defScope s_count_possible) := ⟨rfl, rfl, rfl, by decide +kernel, rfl, by decide +kernel, by decide +kernel⟩
theorem w_count_possible {S : SV} {S_possible_orders : SV} (F : Fun K "count_possible" "count_possible" s_count_possible f fd) (F_possible_orders : Cal P w K mg base b 4 "possible_orders" ["row"] S_possible_orders) (n_len : mg "len" = none) (hlen : ∀ ds Q E, S ds Q E → ds.length = 1)
    (law : ∀ ds Q E, S ds Q E → t_count_possible S_possible_orders (envOf 1 ds) (fin Q E)) : FnOk P w K mg base (L2.CX P w) 5 f fd ["row"] (spV b S) := by
  refine fnV F sc_count_possible hlen (by decide) (fun cdv A outer s H E hr tk => ?_) law
  exact (vs_one (vs_ret (ve_len (by rfl) n_len (vxs_cons (VE.toX (ve_cal F_possible_orders hr tk (by rfl) (va_cons (ve_var (pv 0)) va_nil))) vxs_nil))))
abbrev s_o_word_with : Stmt := topS 29
abbrev N_o_word_with : List Str := ["counts", "found", "served", "count"]
theorem sc_o_word_with : FnScope N_o_word_with ["counts"] (defScope s_o_word_with) := ⟨rfl, rfl, rfl, by decide +kernel, rfl, by decide +kernel, by decide +kernel⟩
theorem w_o_word_with {S : SV} (F : Fun K "word_with" "word_with" s_o_word_with f fd) (n_len : mg "len" = none) (hlen : ∀ ds Q E, S ds Q E → ds.length = 1)
    (law : ∀ ds Q E, S ds Q E → t_o_word_with (envOf 4 ds) (fin Q E)) : FnOk P w K mg base (L2.CX P w) 1 f fd ["counts"] (spV b S) := by
  refine fnV F sc_o_word_with hlen (by decide) (fun cdv A outer s H E hr tk => ?_) law
  exact (vs_cons (vs_parT (is := [1, 2]) rfl (pgs_cons (pg_name (i := 1) sc_o_word_with.nd rfl (.inl rfl)) (pgs_cons (pg_name (i := 2) sc_o_word_with.nd rfl (.inl rfl)) pgs_nil)) (vm_sh ve_str (vm_sh ve_int vm_nil)))
      (vs_cons (vs_for (passes_of rfl) rfl (vi_src (ve_var (pv 0))) (vg_name (i := 3) sc_o_word_with.nd rfl (.inl rfl))
      (vs_cons (vs_augAdd (i := 1) sc_o_word_with.nd rfl (.inl rfl) (ve_add (VE.toX (ve_mulA (VE.toX ve_str) (VE.toX (ve_sub (vx_var (pv 3)) (vx_var (pv 2)))))) (VE.toX ve_str)))
      (vs_one (vs_asg (i := 2) sc_o_word_with.nd rfl (.inl rfl) (ve_var (pv 3))))))
      (vs_one (vs_ret (ve_add (vx_var (pv 1)) (VE.toX (ve_mulA (VE.toX ve_str) (VE.toX (ve_sub (VE.toX (ve_len (by rfl) n_len (vxs_cons (vx_var (pv 0)) vxs_nil))) (vx_var (pv 2)))))))))))
abbrev s_stairs : Stmt := topS 27
abbrev N_stairs : List Str := ["row", "order", "low", "high", "lows", "person"]
theorem sc_stairs : FnScope N_stairs ["row", "order"] (defScope s_stairs) := ⟨rfl, rfl, rfl, by decide +kernel, rfl, by decide +kernel, by decide +kernel⟩
theorem w_stairs {S : SV} {S_greatest_counts : SV} {S_least_counts : SV} (F : Fun K "stairs" "stairs" s_stairs f fd) (F_greatest_counts : Cal P w K mg base b 5 "greatest_counts" ["row", "order"] S_greatest_counts) (F_least_counts : Cal P w K mg base b 5 "least_counts" ["row", "order"] S_least_counts) (n_tuple : mg "tuple" = none) (n_range : mg "range" = none) (n_len : mg "len" = none) (n_max : mg "max" = none) (n_min : mg "min" = none) (hlen : ∀ ds Q E, S ds Q E → ds.length = 2)
    (law : ∀ ds Q E, S ds Q E → t_stairs S_greatest_counts S_least_counts (envOf 6 ds) (fin Q E)) : FnOk P w K mg base (L2.CX P w) 6 f fd ["row", "order"] (spV b S) := by
  refine fnV F sc_stairs hlen (by decide) (fun cdv A outer s H E hr tk => ?_) law
  exact (vs_cons (vs_parT (is := [2, 3]) rfl (pgs_cons (pg_name (i := 2) sc_stairs.nd rfl (.inr rfl)) (pgs_cons (pg_name (i := 3) sc_stairs.nd rfl (.inr rfl)) pgs_nil)) (vm_sh (ve_cal F_least_counts hr tk (by rfl) (va_cons (ve_var (pv 0)) (va_cons (ve_var (pv 1)) va_nil))) (vm_sh (ve_cal F_greatest_counts hr tk (by rfl) (va_cons (ve_var (pv 0)) (va_cons (ve_var (pv 1)) va_nil))) vm_nil)))
      (vs_cons (vs_asg (i := 4) sc_stairs.nd rfl (.inl rfl) (ve_tupleC (by rfl) n_tuple (vxs_cons (VN.toX (vn_lc (own := [("person", 5)]) rfl sc_stairs.nd (vib_range1 (by rfl) n_range (vxs_cons (VE.toX (ve_len (by rfl) n_len (vxs_cons (vx_var (pv 2)) vxs_nil))) vxs_nil)) (blkOk_by (N := N_stairs) (sc := defScope s_stairs) (by decide +kernel)) (by decide) (fun _ _ _ _ _ => (vg_name (i := 5) sc_stairs.nd rfl (.inl rfl))) (fun _ _ _ _ _ => vts_nil) (fun _ _ _ _ _ => (ve_max rfl (by rfl) n_max (vxs_cons (VE.toX (ve_sl (vx_var (pv 2)) vo_no (vo_at (VE.toX (ve_add (vx_var (pv 5)) (VE.toX ve_int)))))) vxs_nil))))) vxs_nil)))
      (vs_one (vs_ret (ve_tup (va_cons (ve_var (pv 4)) (va_cons (ve_tupleC (by rfl) n_tuple (vxs_cons (VN.toX (vn_lc (own := [("person", 5)]) rfl sc_stairs.nd (vib_range1 (by rfl) n_range (vxs_cons (VE.toX (ve_len (by rfl) n_len (vxs_cons (vx_var (pv 3)) vxs_nil))) vxs_nil)) (blkOk_by (N := N_stairs) (sc := defScope s_stairs) (by decide +kernel)) (by decide) (fun _ _ _ _ _ => (vg_name (i := 5) sc_stairs.nd rfl (.inl rfl))) (fun _ _ _ _ _ => vts_nil) (fun _ _ _ _ _ => (ve_min rfl (by rfl) n_min (vxs_cons (VE.toX (ve_sl (vx_var (pv 3)) (vo_at (vx_var (pv 5))) vo_no)) vxs_nil))))) vxs_nil)) va_nil)))))))
abbrev s_verdict : Stmt := topS 30
abbrev N_verdict : List Str := ["row", "order", "wrong", "pairs"]
theorem sc_verdict : FnScope N_verdict ["row", "order"] (defScope s_verdict) := ⟨rfl, rfl, rfl, by decide +kernel, rfl, by decide +kernel, by decide +kernel⟩
theorem w_verdict {S : SV} {S_clashes : SV} {S_misplaced : SV} {S_o_word_with : SV} {S_stairs : SV} (F : Fun K "verdict" "verdict" s_verdict f fd) (F_clashes : Cal P w K mg base b 6 "clashes" ["row", "order"] S_clashes) (F_misplaced : Cal P w K mg base b 5 "misplaced" ["row", "order"] S_misplaced) (F_o_word_with : Cal P w K mg base b 1 "word_with" ["counts"] S_o_word_with) (F_stairs : Cal P w K mg base b 6 "stairs" ["row", "order"] S_stairs) (c_PLACE : ∃ t, mg "PLACE" = some (.str "place" t)) (c_CLASH : ∃ t, mg "CLASH" = some (.str "clash" t)) (c_HISTORY : ∃ t, mg "HISTORY" = some (.str "history" t)) (hlen : ∀ ds Q E, S ds Q E → ds.length = 2)
    (law : ∀ ds Q E, S ds Q E → t_verdict S_clashes S_misplaced S_o_word_with S_stairs (envOf 4 ds) (fin Q E)) : FnOk P w K mg base (L2.CX P w) 7 f fd ["row", "order"] (spV b S) := by
  refine fnV F sc_verdict hlen (by decide) (fun cdv A outer s H E hr tk => ?_) law
  have hu := hr.units
  exact (vs_cons (vs_par2 (i := 2) (j := 3) rfl sc_verdict.nd rfl rfl (by decide) rfl rfl (vm_sh (ve_cal F_misplaced hr tk (by rfl) (va_cons (ve_var (pv 0)) (va_cons (ve_var (pv 1)) va_nil))) (vm_sh (ve_cal F_clashes hr tk (by rfl) (va_cons (ve_var (pv 0)) (va_cons (ve_var (pv 1)) va_nil))) vm_nil)) (by rfl))
      (vs_cons (vs_if (vt_ne hu (vx_var (pv 2)) (VE.toX (ve_tup va_nil)))
      (vs_one (vs_ret (ve_tup (va_cons (ve_gstr (by rfl) c_PLACE) (va_cons (ve_ix (vx_var (pv 2)) (VE.toX ve_int)) va_nil)))))
      vs_nil)
      (vs_cons (vs_if (vt_ne hu (vx_var (pv 3)) (VE.toX (ve_tup va_nil)))
      (vs_one (vs_ret (ve_tup (va_cons (ve_gstr (by rfl) c_CLASH) (va_star (ve_ix (vx_var (pv 3)) (VE.toX ve_int)) va_nil)))))
      vs_nil)
      (vs_one (vs_ret (ve_tup (va_cons (ve_gstr (by rfl) c_HISTORY) (va_cons (ve_cal F_o_word_with hr tk (by rfl) (va_cons (ve_ix (VE.toX (ve_cal F_stairs hr tk (by rfl) (va_cons (ve_var (pv 0)) (va_cons (ve_var (pv 1)) va_nil)))) (VE.toX ve_int)) va_nil)) va_nil))))))))
abbrev s_counts_in : Stmt := topS 31
abbrev N_counts_in : List Str := ["row", "word", "found", "served", "letter"]
theorem sc_counts_in : FnScope N_counts_in ["row", "word"] (defScope s_counts_in) := ⟨rfl, rfl, rfl, by decide +kernel, rfl, by decide +kernel, by decide +kernel⟩
theorem w_counts_in {S : SV} (F : Fun K "counts_in" "counts_in" s_counts_in f fd) (n_len : mg "len" = none) (hlen : ∀ ds Q E, S ds Q E → ds.length = 2)
    (law : ∀ ds Q E, S ds Q E → t_counts_in (envOf 5 ds) (fin Q E)) : FnOk P w K mg base (L2.CX P w) 1 f fd ["row", "word"] (spV b S) := by
  refine fnV F sc_counts_in hlen (by decide) (fun cdv A outer s H E hr tk => ?_) law
  have hu := hr.units
  exact (vs_cons (vs_if (VWe.pt (vw_or (vt_ne hu (VE.toX (ve_len (by rfl) n_len (vxs_cons (vx_var (pv 1)) vxs_nil))) (VE.toX (ve_mulA (VE.toX ve_int) (VE.toX (ve_len (by rfl) n_len (vxs_cons (vx_var (pv 0)) vxs_nil)))))) (vw_or (vt_ne hu (VE.toX (ve_mth mx_cnt (vx_var (pv 1)) (vxs_cons (VE.toX ve_str) vxs_nil))) (VE.toX (ve_len (by rfl) n_len (vxs_cons (vx_var (pv 0)) vxs_nil)))) (vw_or1 (vt_ne hu (VE.toX (ve_mth mx_cnt (vx_var (pv 1)) (vxs_cons (VE.toX ve_str) vxs_nil))) (VE.toX (ve_len (by rfl) n_len (vxs_cons (vx_var (pv 0)) vxs_nil))))))))
      (vs_one (vs_ret ve_non))
      vs_nil)
      (vs_cons (vs_par2 (i := 2) (j := 3) rfl sc_counts_in.nd rfl rfl (by decide) rfl rfl (vm_nw (vn_lst va_nil) (vm_sh ve_int vm_nil)) (by rfl))
      (vs_cons (vs_for (passes_of rfl) rfl (vi_src (ve_var (pv 1))) (vg_name (i := 4) sc_counts_in.nd rfl (.inl rfl))
      (vs_one (vs_if (vt_eq hu (vx_var (pv 4)) (VE.toX ve_str))
      (vs_one (vs_app (pv 2) (va_cons (ve_var (pv 3)) va_nil)))
      (vs_cons (vs_augAdd (i := 3) sc_counts_in.nd rfl (.inl rfl) ve_int)
      (vs_one (vs_if (vt_gt (vx_var (pv 3)) (VE.toX (ve_len (by rfl) n_len (vxs_cons (vx_var (pv 2)) vxs_nil))))
      (vs_one (vs_ret ve_non))
      vs_nil))))))
      (vs_one (vs_frz 2 (vs_ret (ve_var (pv 2))))))))
abbrev s_fits : Stmt := topS 32
abbrev N_fits : List Str := ["row", "order", "counts", "low", "high", "least", "count", "most"]
theorem sc_fits : FnScope N_fits ["row", "order", "counts"] (defScope s_fits) := ⟨rfl, rfl, rfl, by decide +kernel, rfl, by decide +kernel, by decide +kernel⟩
theorem w_fits {S : SV} {S_greatest_counts : SV} {S_least_counts : SV} (F : Fun K "fits" "fits" s_fits f fd) (F_greatest_counts : Cal P w K mg base b 5 "greatest_counts" ["row", "order"] S_greatest_counts) (F_least_counts : Cal P w K mg base b 5 "least_counts" ["row", "order"] S_least_counts) (n_all : mg "all" = none) (n_zip : mg "zip" = none) (hlen : ∀ ds Q E, S ds Q E → ds.length = 3)
    (law : ∀ ds Q E, S ds Q E → t_fits S_greatest_counts S_least_counts (envOf 8 ds) (fin Q E)) : FnOk P w K mg base (L2.CX P w) 6 f fd ["row", "order", "counts"] (spV b S) := by
  refine fnV F sc_fits hlen (by decide) (fun cdv A outer s H E hr tk => ?_) law
  exact (vs_cons (vs_par2 (i := 3) (j := 4) rfl sc_fits.nd rfl rfl (by decide) rfl rfl (vm_sh (ve_cal F_least_counts hr tk (by rfl) (va_cons (ve_var (pv 0)) (va_cons (ve_var (pv 1)) va_nil))) (vm_sh (ve_cal F_greatest_counts hr tk (by rfl) (va_cons (ve_var (pv 0)) (va_cons (ve_var (pv 1)) va_nil))) vm_nil)) (by rfl))
      (vs_one (vs_ret (ve_all rfl (by rfl) n_all (vxs_cons (VN.toX (vn_lc (own := [("least", 5), ("count", 6), ("most", 7)]) rfl sc_fits.nd (vib_zip3 (by rfl) n_zip (vxs_cons (vx_var (pv 3)) (vxs_cons (vx_var (pv 2)) (vxs_cons (vx_var (pv 4)) vxs_nil)))) (blkOk_by (N := N_fits) (sc := defScope s_fits) (by decide +kernel)) (by decide) (fun _ _ _ _ _ => (vg_tup rfl (vgs_cons (vg_name (i := 5) sc_fits.nd rfl (.inl rfl)) (vgs_cons (vg_name (i := 6) sc_fits.nd rfl (.inl rfl)) (vgs_cons (vg_name (i := 7) sc_fits.nd rfl (.inl rfl)) vgs_nil))))) (fun _ _ _ _ _ => vts_nil) (fun _ _ _ _ _ => (ve_le2 (vx_var (pv 5)) (vx_var (pv 6)) (vx_var (pv 7)))))) vxs_nil)))))
abbrev s_history_holds : Stmt := topS 33
abbrev N_history_holds : List Str := ["row", "order", "value", "counts"]
theorem sc_history_holds : FnScope N_history_holds ["row", "order", "value"] (defScope s_history_holds) := ⟨rfl, rfl, rfl, by decide +kernel, rfl, by decide +kernel, by decide +kernel⟩
theorem w_history_holds {S : SV} {S_is_possible : SV} {S_counts_in : SV} {S_fits : SV} (F : Fun K "history_holds" "history_holds" s_history_holds f fd) (F_is_possible : Cal P w K mg base b 7 "is_possible" ["row", "order"] S_is_possible) (F_counts_in : Cal P w K mg base b 1 "counts_in" ["row", "word"] S_counts_in) (F_fits : Cal P w K mg base b 6 "fits" ["row", "order", "counts"] S_fits) (n_isinstance : mg "isinstance" = none) (n_str : mg "str" = none) (hlen : ∀ ds Q E, S ds Q E → ds.length = 3)
    (law : ∀ ds Q E, S ds Q E → t_history_holds S_is_possible S_counts_in S_fits (envOf 4 ds) (fin Q E)) : FnOk P w K mg base (L2.CX P w) 8 f fd ["row", "order", "value"] (spV b S) := by
  refine fnV F sc_history_holds hlen (by decide) (fun cdv A outer s H E hr tk => ?_) law
  exact (vs_cons (vs_if (VWe.pt (vw_or (vt_not (vt_val (VE.toX (ve_isi (by rfl) n_isinstance (vxs_cons (vx_var (pv 2)) (vxs_cons (VE.toX (ve_tyStr (by rfl) n_str)) vxs_nil)))))) (vw_or1 (vt_not (vt_val (VE.toX (ve_cal F_is_possible hr tk (by rfl) (va_cons (ve_var (pv 0)) (va_cons (ve_var (pv 1)) va_nil)))))))))
      (vs_one (vs_ret ve_bl))
      vs_nil)
      (vs_cons (vs_asg (i := 3) sc_history_holds.nd rfl (.inl rfl) (ve_cal F_counts_in hr tk (by rfl) (va_cons (ve_var (pv 0)) (va_cons (ve_var (pv 2)) va_nil))))
      (vs_one (vs_ret (ve_and (VE.toX (ve_notN (vx_var (pv 3)) (VE.toX ve_non))) (ve_one (ve_cal F_fits hr tk (by rfl) (va_cons (ve_var (pv 0)) (va_cons (ve_var (pv 1)) (va_cons (ve_var (pv 3)) va_nil))))))))))
abbrev s_verdict_holds : Stmt := topS 34
abbrev N_verdict_holds : List Str := ["row", "order", "value", "wrong", "pairs", "item"]
theorem sc_verdict_holds : FnScope N_verdict_holds ["row", "order", "value"] (defScope s_verdict_holds) := ⟨rfl, rfl, rfl, by decide +kernel, rfl, by decide +kernel, by decide +kernel⟩
theorem w_verdict_holds {S : SV} {S_clashes : SV} {S_misplaced : SV} {S_is_number : SV} {S_history_holds : SV} (F : Fun K "verdict_holds" "verdict_holds" s_verdict_holds f fd) (F_clashes : Cal P w K mg base b 6 "clashes" ["row", "order"] S_clashes) (F_misplaced : Cal P w K mg base b 5 "misplaced" ["row", "order"] S_misplaced) (F_is_number : Cal P w K mg base b 1 "is_number" ["value", "low", "high"] S_is_number) (F_history_holds : Cal P w K mg base b 8 "history_holds" ["row", "order", "value"] S_history_holds) (c_HISTORY : ∃ t, mg "HISTORY" = some (.str "history" t)) (c_PLACE : ∃ t, mg "PLACE" = some (.str "place" t)) (c_CLASH : ∃ t, mg "CLASH" = some (.str "clash" t)) (n_isinstance : mg "isinstance" = none) (n_tuple : mg "tuple" = none) (n_len : mg "len" = none) (n_str : mg "str" = none) (n_all : mg "all" = none) (hlen : ∀ ds Q E, S ds Q E → ds.length = 3)
    (law : ∀ ds Q E, S ds Q E → t_verdict_holds S_clashes S_misplaced S_is_number S_history_holds (envOf 6 ds) (fin Q E)) : FnOk P w K mg base (L2.CX P w) 9 f fd ["row", "order", "value"] (spV b S) := by
  refine fnV F sc_verdict_holds hlen (by decide) (fun cdv A outer s H E hr tk => ?_) law
  have hu := hr.units
  exact (vs_cons (vs_par2 (i := 3) (j := 4) rfl sc_verdict_holds.nd rfl rfl (by decide) rfl rfl (vm_sh (ve_cal F_misplaced hr tk (by rfl) (va_cons (ve_var (pv 0)) (va_cons (ve_var (pv 1)) va_nil))) (vm_sh (ve_cal F_clashes hr tk (by rfl) (va_cons (ve_var (pv 0)) (va_cons (ve_var (pv 1)) va_nil))) vm_nil)) (by rfl))
      (vs_cons (vs_if (VWe.pt (vw_or (vt_not (vt_val (VE.toX (ve_isi (by rfl) n_isinstance (vxs_cons (vx_var (pv 2)) (vxs_cons (VE.toX (ve_tyTuple (by rfl) n_tuple)) vxs_nil)))))) (vw_or (vt_lt (VE.toX (ve_len (by rfl) n_len (vxs_cons (vx_var (pv 2)) vxs_nil))) (VE.toX ve_int)) (vw_or1 (vt_not (vt_val (VE.toX (ve_isi (by rfl) n_isinstance (vxs_cons (VE.toX (ve_ix (vx_var (pv 2)) (VE.toX ve_int))) (vxs_cons (VE.toX (ve_tyStr (by rfl) n_str)) vxs_nil))))))))))
      (vs_one (vs_ret ve_bl))
      vs_nil)
      (vs_cons (vs_if (vt_not (vt_val (VE.toX (ve_all rfl (by rfl) n_all (vxs_cons (VN.toX (vn_lc (own := [("item", 5)]) rfl sc_verdict_holds.nd (vib_src (vx_var (pv 2))) (blkOk_by (N := N_verdict_holds) (sc := defScope s_verdict_holds) (by decide +kernel)) (by decide) (fun _ _ _ _ _ => (vg_name (i := 5) sc_verdict_holds.nd rfl (.inl rfl))) (fun _ _ _ _ _ => vts_nil) (fun _ _ _ _ _ => (ve_or (VE.toX (ve_isi (by rfl) n_isinstance (vxs_cons (vx_var (pv 5)) (vxs_cons (VE.toX (ve_tyStr (by rfl) n_str)) vxs_nil)))) (ve_one (ve_cal F_is_number hr takes0 (by rfl) (va_cons (ve_var (pv 5)) (va_cons ve_int (va_cons (ve_len (by rfl) n_len (vxs_cons (vx_var (pv 0)) vxs_nil)) va_nil))))))))) vxs_nil)))))
      (vs_one (vs_ret ve_bl))
      vs_nil)
      (vs_cons (vs_if (vt_eq hu (VE.toX (ve_ix (vx_var (pv 2)) (VE.toX ve_int))) (VE.toX (ve_gstr (by rfl) c_HISTORY)))
      (vs_one (vs_ret (ve_and (VE.toX (ve_eq hu (VE.toX (ve_len (by rfl) n_len (vxs_cons (vx_var (pv 2)) vxs_nil))) (VE.toX ve_int))) (ve_one (ve_cal F_history_holds hr tk (by rfl) (va_cons (ve_var (pv 0)) (va_cons (ve_var (pv 1)) (va_cons (ve_ix (vx_var (pv 2)) (VE.toX ve_int)) va_nil))))))))
      vs_nil)
      (vs_cons (vs_if (vt_eq hu (VE.toX (ve_ix (vx_var (pv 2)) (VE.toX ve_int))) (VE.toX (ve_gstr (by rfl) c_PLACE)))
      (vs_one (vs_ret (ve_and (VE.toX (ve_eq hu (VE.toX (ve_len (by rfl) n_len (vxs_cons (vx_var (pv 2)) vxs_nil))) (VE.toX ve_int))) (ve_one (ve_in hu (VE.toX (ve_ix (vx_var (pv 2)) (VE.toX ve_int))) (vx_var (pv 3)))))))
      vs_nil)
      (vs_one (vs_ret (ve_and (VE.toX (ve_eq hu (VE.toX (ve_ix (vx_var (pv 2)) (VE.toX ve_int))) (VE.toX (ve_gstr (by rfl) c_CLASH)))) (ve_one (ve_in hu (VE.toX (ve_sl (vx_var (pv 2)) (vo_at (VE.toX ve_int)) vo_no)) (vx_var (pv 4))))))))))))
abbrev s_law_one_right : Stmt := topS 47
abbrev N_law_one_right : List Str := ["_law_row_here", "_law_order", "_law_told", "_law_wrong", "_law_pairs", "_law_person", "_law_other", "_law_text"]
theorem sc_law_one_right : FnScope N_law_one_right ["_law_row_here", "_law_order"] (defScope s_law_one_right) := ⟨rfl, rfl, rfl, by decide +kernel, rfl, by decide +kernel, by decide +kernel⟩
theorem w_law_one_right {S : SV} {S_clashes : SV} {S_misplaced : SV} {S_verdict : SV} {S_is_possible : SV} {S_verdict_holds : SV} (F : Fun K "_law_one_right" "_law_one_right" s_law_one_right f fd) (F_clashes : Cal P w K mg base b 6 "clashes" ["row", "order"] S_clashes) (F_misplaced : Cal P w K mg base b 5 "misplaced" ["row", "order"] S_misplaced) (F_verdict : Cal P w K mg base b 7 "verdict" ["row", "order"] S_verdict) (F_is_possible : Cal P w K mg base b 7 "is_possible" ["row", "order"] S_is_possible) (F_verdict_holds : Cal P w K mg base b 9 "verdict_holds" ["row", "order", "value"] S_verdict_holds) (n_range : mg "range" = none) (n_len : mg "len" = none) (hlen : ∀ ds Q E, S ds Q E → ds.length = 2)
    (law : ∀ ds Q E, S ds Q E → t_law_one_right S_clashes S_misplaced S_verdict S_is_possible S_verdict_holds (envOf 8 ds) (fin Q E)) : FnOk P w K mg base (L2.CX P w) 10 f fd ["_law_row_here", "_law_order"] (spV b S) := by
  refine fnV F sc_law_one_right hlen (by decide) (fun cdv A outer s H E hr tk => ?_) law
  have hu := hr.units
  exact (vs_cons (vs_par3 (i := 2) (j := 3) (k := 4) rfl sc_law_one_right.nd rfl rfl rfl (by decide) (by decide) (by decide) rfl rfl rfl (vm_sh (ve_cal F_verdict hr tk (by rfl) (va_cons (ve_var (pv 0)) (va_cons (ve_var (pv 1)) va_nil))) (vm_sh (ve_cal F_misplaced hr tk (by rfl) (va_cons (ve_var (pv 0)) (va_cons (ve_var (pv 1)) va_nil))) (vm_sh (ve_cal F_clashes hr tk (by rfl) (va_cons (ve_var (pv 0)) (va_cons (ve_var (pv 1)) va_nil))) vm_nil))) (by rfl))
      (vs_cons (vs_if (VWe.pt (vw_or (vt_ne hu (VE.toX (ve_eq hu (VE.toX (ve_ix (vx_var (pv 2)) (VE.toX ve_int))) (VE.toX ve_str))) (VE.toX (ve_cal F_is_possible hr tk (by rfl) (va_cons (ve_var (pv 0)) (va_cons (ve_var (pv 1)) va_nil))))) (vw_or1 (vt_ne hu (VE.toX (ve_cal F_is_possible hr tk (by rfl) (va_cons (ve_var (pv 0)) (va_cons (ve_var (pv 1)) va_nil)))) (VE.toX (ve_eq hu (VE.toX (ve_add (vx_var (pv 3)) (vx_var (pv 4)))) (VE.toX (ve_tup va_nil))))))))
      (vs_one (vs_ret ve_bl))
      vs_nil)
      (vs_cons (vs_if (VWe.pt (vw_or (vt_notB (VE.toX (ve_cal F_verdict_holds hr tk (by rfl) (va_cons (ve_var (pv 0)) (va_cons (ve_var (pv 1)) (va_cons (ve_var (pv 2)) va_nil))))) (VE.toX ve_bl)) (vw_or1 (vt_ne hu (VE.toX (ve_eq hu (VE.toX (ve_ix (vx_var (pv 2)) (VE.toX ve_int))) (VE.toX ve_str))) (VE.toX (ve_ne hu (vx_var (pv 3)) (VE.toX (ve_tup va_nil))))))))
      (vs_one (vs_ret ve_bl))
      vs_nil)
      (vs_cons (vs_for (passes_of rfl) rfl (vi_range1 (by rfl) n_range (vxs_cons (VE.toX (ve_len (by rfl) n_len (vxs_cons (vx_var (pv 0)) vxs_nil))) vxs_nil)) (vg_name (i := 5) sc_law_one_right.nd rfl (.inl rfl))
      (vs_cons (vs_if (vt_ne hu (VE.toX (ve_cal F_verdict_holds hr tk (by rfl) (va_cons (ve_var (pv 0)) (va_cons (ve_var (pv 1)) (va_cons (ve_tup (va_cons ve_str (va_cons (ve_var (pv 5)) va_nil))) va_nil))))) (VE.toX (ve_in hu (vx_var (pv 5)) (vx_var (pv 3)))))
      (vs_one (vs_ret ve_bl))
      vs_nil)
      (vs_cons (vs_asg (i := 6) sc_law_one_right.nd rfl (.inl rfl) (ve_sub (VE.toX (ve_sub (VE.toX (ve_len (by rfl) n_len (vxs_cons (vx_var (pv 0)) vxs_nil))) (VE.toX ve_int))) (vx_var (pv 5))))
      (vs_one (vs_if (vt_ne hu (VE.toX (ve_cal F_verdict_holds hr tk (by rfl) (va_cons (ve_var (pv 0)) (va_cons (ve_var (pv 1)) (va_cons (ve_tup (va_cons ve_str (va_cons (ve_var (pv 5)) (va_cons (ve_var (pv 6)) va_nil)))) va_nil))))) (VE.toX (ve_in hu (VE.toX (ve_tup (va_cons (ve_var (pv 5)) (va_cons (ve_var (pv 6)) va_nil)))) (vx_var (pv 4)))))
      (vs_one (vs_ret ve_bl))
      vs_nil)))))
      (vs_cons (vs_asg (i := 7) sc_law_one_right.nd rfl (.inl rfl) (ve_add (VE.toX (ve_mulA (VE.toX ve_str) (VE.toX (ve_len (by rfl) n_len (vxs_cons (vx_var (pv 0)) vxs_nil))))) (VE.toX (ve_mulA (VE.toX ve_str) (VE.toX (ve_len (by rfl) n_len (vxs_cons (vx_var (pv 0)) vxs_nil)))))))
      (vs_one (vs_ret (ve_or (VE.toX (ve_eq hu (VE.toX (ve_ix (vx_var (pv 2)) (VE.toX ve_int))) (VE.toX ve_str))) (ve_one (ve_isB (VE.toX (ve_cal F_verdict_holds hr tk (by rfl) (va_cons (ve_var (pv 0)) (va_cons (ve_var (pv 1)) (va_cons (ve_tup (va_cons ve_str (va_cons (ve_var (pv 7)) va_nil))) va_nil))))) (VE.toX ve_bl)))))))))))
abbrev s_bounds_of : Stmt := topS 28
abbrev N_bounds_of : List Str := ["row", "order"]
theorem sc_bounds_of : FnScope N_bounds_of ["row", "order"] (defScope s_bounds_of) := ⟨rfl, rfl, rfl, by decide +kernel, rfl, by decide +kernel, by decide +kernel⟩
theorem w_bounds_of {S : SV} {S_is_possible : SV} {S_stairs : SV} (F : Fun K "bounds_of" "bounds_of" s_bounds_of f fd) (F_is_possible : Cal P w K mg base b 7 "is_possible" ["row", "order"] S_is_possible) (F_stairs : Cal P w K mg base b 6 "stairs" ["row", "order"] S_stairs) (M_Impossible : Mk0 K mg b "Impossible") (hlen : ∀ ds Q E, S ds Q E → ds.length = 2)
    (law : ∀ ds Q E, S ds Q E → t_bounds_of S_is_possible S_stairs (envOf 2 ds) (fin Q E)) : FnOk P w K mg base (L2.CX P w) 8 f fd ["row", "order"] (spV b S) := by
  refine fnV F sc_bounds_of hlen (by decide) (fun cdv A outer s H E hr tk => ?_) law
  exact (vs_cons (vs_if (vt_not (vt_val (VE.toX (ve_cal F_is_possible hr tk (by rfl) (va_cons (ve_var (pv 0)) (va_cons (ve_var (pv 1)) va_nil))))))
      (vs_one (vs_raise0 M_Impossible rfl tk (by rfl)))
      vs_nil)
      (vs_one (vs_ret (ve_cal F_stairs hr tk (by rfl) (va_cons (ve_var (pv 0)) (va_cons (ve_var (pv 1)) va_nil))))))
abbrev s_law_alike : Stmt := topS 48
abbrev N_law_alike : List Str := ["_law_row_here", "_law_order", "_law_other", "_law_told", "_law_again", "_law_longer", "_law_later", "_law_low", "_law_high"]
theorem sc_law_alike : FnScope N_law_alike ["_law_row_here", "_law_order", "_law_other"] (defScope s_law_alike) := ⟨rfl, rfl, rfl, by decide +kernel, rfl, by decide +kernel, by decide +kernel⟩
theorem w_law_alike {S : SV} {S_verdict : SV} {S_kinds_of : SV} {S_clashes : SV} {S_is_possible : SV} {S_bounds_of : SV} (F : Fun K "_law_alike" "_law_alike" s_law_alike f fd) (F_verdict : Cal P w K mg base b 7 "verdict" ["row", "order"] S_verdict) (F_kinds_of : Cal P w K mg base b 4 "kinds_of" ["row", "order"] S_kinds_of) (F_clashes : Cal P w K mg base b 6 "clashes" ["row", "order"] S_clashes) (F_is_possible : Cal P w K mg base b 7 "is_possible" ["row", "order"] S_is_possible) (F_bounds_of : Cal P w K mg base b 8 "bounds_of" ["row", "order"] S_bounds_of) (n_len : mg "len" = none) (hlen : ∀ ds Q E, S ds Q E → ds.length = 3)
    (law : ∀ ds Q E, S ds Q E → t_law_alike S_verdict S_kinds_of S_clashes S_is_possible S_bounds_of (envOf 9 ds) (fin Q E)) : FnOk P w K mg base (L2.CX P w) 9 f fd ["_law_row_here", "_law_order", "_law_other"] (spV b S) := by
  refine fnV F sc_law_alike hlen (by decide) (fun cdv A outer s H E hr tk => ?_) law
  have hu := hr.units
  exact (vs_cons (vs_par2 (i := 3) (j := 4) rfl sc_law_alike.nd rfl rfl (by decide) rfl rfl (vm_sh (ve_cal F_verdict hr tk (by rfl) (va_cons (ve_var (pv 0)) (va_cons (ve_var (pv 1)) va_nil))) (vm_sh (ve_cal F_verdict hr tk (by rfl) (va_cons (ve_var (pv 2)) (va_cons (ve_var (pv 1)) va_nil))) vm_nil)) (by rfl))
      (vs_cons (vs_if (VWe.pt (vw_or (vt_ne hu (VE.toX (ve_cal F_kinds_of hr tk (by rfl) (va_cons (ve_var (pv 2)) (va_cons (ve_var (pv 1)) va_nil)))) (VE.toX (ve_cal F_kinds_of hr tk (by rfl) (va_cons (ve_var (pv 0)) (va_cons (ve_var (pv 1)) va_nil))))) (vw_or1 (vt_ne hu (VE.toX (ve_ix (vx_var (pv 4)) (VE.toX ve_int))) (VE.toX (ve_ix (vx_var (pv 3)) (VE.toX ve_int)))))))
      (vs_one (vs_ret ve_bl))
      vs_nil)
      (vs_cons (vs_if (VWe.pt (vw_and (vt_ne hu (VE.toX (ve_ix (vx_var (pv 3)) (VE.toX ve_int))) (VE.toX ve_str)) (vw_and1 (vt_ne hu (vx_var (pv 4)) (vx_var (pv 3))))))
      (vs_one (vs_ret ve_bl))
      vs_nil)
      (vs_cons (vs_par2 (i := 5) (j := 6) rfl sc_law_alike.nd rfl rfl (by decide) rfl rfl (vm_sh (ve_add (vx_var (pv 0)) (VE.toX (ve_tup (va_cons (ve_mulA (VE.toX ve_int) (VE.toX (ve_pow (VE.toX ve_int) (VE.toX ve_int)))) va_nil)))) (vm_sh (ve_add (vx_var (pv 1)) (VE.toX (ve_tup (va_cons (ve_len (by rfl) n_len (vxs_cons (vx_var (pv 0)) vxs_nil)) va_nil)))) vm_nil)) (by rfl))
      (vs_cons (vs_if (VWe.pt (vw_or (vt_ne hu (VE.toX (ve_cal F_kinds_of hr tk (by rfl) (va_cons (ve_var (pv 5)) (va_cons (ve_var (pv 6)) va_nil)))) (VE.toX (ve_add (VE.toX (ve_cal F_kinds_of hr tk (by rfl) (va_cons (ve_var (pv 0)) (va_cons (ve_var (pv 1)) va_nil)))) (VE.toX (ve_tup (va_cons ve_str va_nil)))))) (vw_or1 (vt_ne hu (VE.toX (ve_cal F_clashes hr tk (by rfl) (va_cons (ve_var (pv 5)) (va_cons (ve_var (pv 6)) va_nil)))) (VE.toX (ve_cal F_clashes hr tk (by rfl) (va_cons (ve_var (pv 0)) (va_cons (ve_var (pv 1)) va_nil))))))))
      (vs_one (vs_ret ve_bl))
      vs_nil)
      (vs_cons (vs_if (vt_not (vt_val (VE.toX (ve_cal F_is_possible hr tk (by rfl) (va_cons (ve_var (pv 0)) (va_cons (ve_var (pv 1)) va_nil))))))
      (vs_one (vs_ret (ve_not (VE.toX (ve_cal F_is_possible hr tk (by rfl) (va_cons (ve_var (pv 5)) (va_cons (ve_var (pv 6)) va_nil)))))))
      vs_nil)
      (vs_cons (vs_asgT (ve_cal F_bounds_of hr tk (by rfl) (va_cons (ve_var (pv 0)) (va_cons (ve_var (pv 1)) va_nil))) (vg_tup rfl (vgs_cons (vg_name (i := 7) sc_law_alike.nd rfl (.inl rfl)) (vgs_cons (vg_name (i := 8) sc_law_alike.nd rfl (.inl rfl)) vgs_nil))))
      (vs_one (vs_ret (ve_eq hu (VE.toX (ve_cal F_bounds_of hr tk (by rfl) (va_cons (ve_var (pv 5)) (va_cons (ve_var (pv 6)) va_nil)))) (VE.toX (ve_tup (va_cons (ve_add (vx_var (pv 7)) (VE.toX (ve_sl (vx_var (pv 7)) (vo_at (VE.toX (ve_neg (VE.toX ve_int)))) vo_no))) (va_cons (ve_add (vx_var (pv 8)) (VE.toX (ve_tup (va_cons (ve_len (by rfl) n_len (vxs_cons (vx_var (pv 0)) vxs_nil)) va_nil)))) va_nil))))))))))))))
abbrev s_law : Stmt := topS 49
abbrev N_law : List Str := ["_law_script", "_law_jug_here", "_law_turn", "_law_row_here", "_law_order", "_law_names", "_law_other", "_law_value", "_law_many", "_law_plain", "_law_name"]
theorem sc_law : FnScope N_law ["_law_script"] (defScope s_law) := ⟨rfl, rfl, rfl, by decide +kernel, rfl, by decide +kernel, by decide +kernel⟩
theorem w_law {S_j_row : SV} {S_possible_orders : SV} {S_law_pour : SV} {S_count_possible : SV} {S_j_mixed : SV} {S_j_swapped : SV} {S_law_one_right : SV} {S_law_alike : SV} {S_is_possible : SV} (F_j_row : Cal P w K mg base b 2 "_law_row" ["_law_jug_here", "_law_people"] S_j_row) (F_possible_orders : Cal P w K mg base b 4 "possible_orders" ["row"] S_possible_orders) (F_law_pour : Cal P w K mg base b 1 "_law_pour" ["_law_jug_here", "_law_many"] S_law_pour) (F_count_possible : Cal P w K mg base b 5 "count_possible" ["row"] S_count_possible) (F_j_mixed : Cal P w K mg base b 2 "_law_mixed" ["_law_jug_here", "_law_items"] S_j_mixed) (F_j_swapped : Cal P w K mg base b 2 "_law_swapped" ["_law_jug_here", "_law_order"] S_j_swapped) (F_law_one_right : Cal P w K mg base b 10 "_law_one_right" ["_law_row_here", "_law_order"] S_law_one_right) (F_law_alike : Cal P w K mg base b 9 "_law_alike" ["_law_row_here", "_law_order", "_law_other"] S_law_alike) (F_is_possible : Cal P w K mg base b 7 "is_possible" ["row", "order"] S_is_possible) (n_range : mg "range" = none) (n_len : mg "len" = none) (n_tuple : mg "tuple" = none) (n_sorted : mg "sorted" = none) (n_set : mg "set" = none) (cdv : Value) (A : Around) (outer : List Env) (s : Shared) (H : Hp) (E : XK) (hr : Room 10 (A.deeper (envOfC "law" (defScope s_law) s.heap.objs.size f cdv))) (hgd : (A.deeper (envOfC "law" (defScope s_law) s.heap.objs.size f cdv)).guards = some []) (tk : Takes (cxOf (L2.CX P w) P w K mg base N_law "law" (defScope s_law) f cdv A outer s H E) (WF E)) : VSs (cxOf (L2.CX P w) P w K mg base N_law "law" (defScope s_law) f cdv A outer s H E) b (WF E) (defBody s_law).tail (t_law S_j_row S_possible_orders S_law_pour S_count_possible S_j_mixed S_j_swapped S_law_one_right S_law_alike S_is_possible) := by
  have hu := hr.units
  exact (vs_cons (vs_for (passes_of rfl) rfl (vi_range1 (by rfl) n_range (vxs_cons (VE.toX ve_int) vxs_nil)) (vg_name (i := 2) sc_law.nd rfl (.inl rfl))
      (vs_cons (vs_asg (i := 3) sc_law.nd rfl (.inr rfl) (ve_cal F_j_row hr tk (by rfl) (va_cons (ve_var (pv 1)) (va_cons (ve_ix (VN.toX (vn_lst (va_cons ve_int (va_cons ve_int (va_cons ve_int va_nil))))) (VE.toX (ve_mod (vx_var (pv 2)) (VE.toX ve_int)))) va_nil))))
      (vs_cons (vs_asg (i := 4) sc_law.nd rfl (.inl rfl) (ve_tupRg rfl (by rfl) n_tuple (by rfl) n_range (VE.toX (ve_len (by rfl) n_len (vxs_cons (vx_var (pv 3)) vxs_nil)))))
      (vs_cons (vs_if (VWe.pt (vw_and (vt_eq hu (VE.toX (ve_mod (vx_var (pv 2)) (VE.toX ve_int))) (VE.toX ve_int)) (vw_and1 (vt_lt (VE.toX (ve_len (by rfl) n_len (vxs_cons (vx_var (pv 3)) vxs_nil))) (VE.toX ve_int)))))
      (vs_one (vs_asg (i := 4) sc_law.nd rfl (.inl rfl) (ve_ix (VE.toX (ve_cal F_possible_orders hr tk (by rfl) (va_cons (ve_var (pv 3)) va_nil))) (VE.toX (ve_cal F_law_pour hr tk (by rfl) (va_cons (ve_var (pv 1)) (va_cons (ve_cal F_count_possible hr tk (by rfl) (va_cons (ve_var (pv 3)) va_nil)) va_nil)))))))
      vs_nil)
      (vs_cons (vs_asg (i := 5) sc_law.nd rfl (.inr rfl) (ve_cal F_j_mixed hr tk (by rfl) (va_cons (ve_var (pv 1)) (va_cons (ve_sortSet rfl (by rfl) n_sorted (by rfl) n_set (vx_var (pv 3))) va_nil))))
      (vs_cons (vs_asg (i := 6) sc_law.nd rfl (.inl rfl) (ve_tupleC (by rfl) n_tuple (vxs_cons (VN.toX (vn_lc (own := [("_law_name", 10)]) rfl sc_law.nd (vib_src (vx_var (pv 3))) (blkOk_by (N := N_law) (sc := defScope s_law) (by decide +kernel)) (by decide) (fun _ _ _ _ _ => (vg_name (i := 10) sc_law.nd rfl (.inl rfl))) (fun _ _ _ _ _ => vts_nil) (fun _ _ _ _ _ => (ve_ix (vx_var (pv 5)) (VE.toX (ve_mth (mx_index (hu65 hr)) (VE.toX (ve_sortSet rfl (by rfl) n_sorted (by rfl) n_set (vx_var (pv 3)))) (vxs_cons (vx_var (pv 10)) vxs_nil))))))) vxs_nil)))
      (vs_one (vs_for (passes_of rfl) rfl (vi_src (VN.toE (vn_lst (va_cons (ve_var (pv 4)) (va_cons (ve_cal F_j_swapped hr tk (by rfl) (va_cons (ve_var (pv 1)) (va_cons (ve_var (pv 4)) va_nil))) (va_cons (ve_cal F_j_mixed hr tk (by rfl) (va_cons (ve_var (pv 1)) (va_cons (ve_var (pv 4)) va_nil))) va_nil)))))) (vg_name (i := 7) sc_law.nd rfl (.inl rfl))
      (vs_one (vs_if (VWe.pt (vw_or (vt_not (vt_val (VE.toX (ve_cal F_law_one_right hr tk (by rfl) (va_cons (ve_var (pv 3)) (va_cons (ve_var (pv 7)) va_nil)))))) (vw_or1 (vt_not (vt_val (VE.toX (ve_cal F_law_alike hr tk (by rfl) (va_cons (ve_var (pv 3)) (va_cons (ve_var (pv 7)) (va_cons (ve_var (pv 6)) va_nil))))))))))
      (vs_one (vs_ret ve_bl))
      vs_nil))))))))))
      (vs_cons (vs_asg (i := 8) sc_law.nd rfl (.inl rfl) (ve_add (VE.toX ve_int) (VE.toX (ve_cal F_law_pour hr tk (by rfl) (va_cons (ve_var (pv 1)) (va_cons ve_int va_nil))))))
      (vs_cons (vs_asg (i := 9) sc_law.nd rfl (.inl rfl) (ve_tup (va_cons (ve_tupRg rfl (by rfl) n_tuple (by rfl) n_range (vx_var (pv 8))) va_nil)))
      (vs_cons (vs_if (VWe.pt (vw_or (vt_ne hu (VE.toX (ve_cal F_possible_orders hr tk (by rfl) (va_cons (ve_mulP (VE.toX (ve_tup (va_cons ve_int va_nil))) (vx_var (pv 8))) va_nil))) (vx_var (pv 9))) (vw_or1 (vt_ne hu (VE.toX (ve_cal F_possible_orders hr tk (by rfl) (va_cons (ve_tupRg rfl (by rfl) n_tuple (by rfl) n_range (vx_var (pv 8))) va_nil))) (vx_var (pv 9))))))
      (vs_one (vs_ret ve_bl))
      vs_nil)
      (vs_one (vs_ret (ve_and (VE.toX (ve_cal F_is_possible hr tk (by rfl) (va_cons (ve_mulA (VE.toX (ve_tup (va_cons ve_int va_nil))) (VE.toX ve_int)) (va_cons (ve_tupRg rfl (by rfl) n_tuple (by rfl) n_range (VE.toX ve_int)) va_nil)))) (ve_one (ve_cal F_is_possible hr tk (by rfl) (va_cons (ve_tupRg rfl (by rfl) n_tuple (by rfl) n_range (VE.toX ve_int)) (va_cons (ve_tupRg rfl (by rfl) n_tuple (by rfl) n_range (VE.toX ve_int)) va_nil)))))))))))
end
end LawP
set_option Elab.async false
set_option linter.all false
set_option maxRecDepth 100000
set_option maxHeartbeats 4000000
namespace LawP
open PySem PySem.Spec PyProof.Rows L2 VL
abbrev sJug : Stmt := topS 41
abbrev sPour : Stmt := topS 42
theorem scJug : FnScope ["_law_script", "_law_cells", "_law_cell"] ["_law_script"] (defScope sJug) := ⟨rfl, rfl, rfl, by decide +kernel, rfl, by decide +kernel, by decide +kernel⟩
theorem scPour : FnScope ["_law_jug_here", "_law_many", "_law_rest", "_law_mixed_here"] ["_law_jug_here", "_law_many"] (defScope sPour) := ⟨rfl, rfl, rfl, by decide +kernel, rfl, by decide +kernel, by decide +kernel⟩
section
variable {P : Program} {w : World} {K : PySem.W.Frag} {mg : Str → Option Value} {base : Heap} {f f2 : Addr} {fd fd2 : FuncData}
theorem ok_pour {k : Nat} (F : Fun K "_law_pour" "_law_pour" sPour f fd) : FnOk P w K mg base (L2.CX P w) (k + 1) f fd ["_law_jug_here", "_law_many"] spPour := by
  refine F.okX scPour (fun vs H Q E h => ?_) (fun cdv A outer s H vs Q E hr h => ?_)
  · obtain ⟨r, l, gs, m, rfl, _⟩ := h
    rfl
  · have hu := hr.units
    refine ⟨_, pss_cons (ps_while (passes_of rfl) (pt_cmpR (op_neP hu) (pe_ix ix_list (pv 0) pe_int (fun _ _ => rfl)) (pe_lst pa_nil) (nomark _))
        (pss_cons (ps_set (i := 2) scPour.nd rfl (.inl rfl) (pe_bm0 PySem.F.plainAttrs_list PySem.F.slot_list_pop PySem.F.type_list_pop mt_pop (pe_ix ix_list (pv 0) pe_int (fun _ _ => rfl))))
          (pss_one (ps_if (pt_cmpR op_gt (pv 2) pe_int (nomark _))
            (pss_cons (ps_expr (pe_bm PySem.F.plainAttrs_list PySem.F.slot_list_append PySem.F.type_list_append mt_append (pe_ix ix_list (pv 0) pe_int (fun _ _ => rfl)) (pa_cons (pe_op op_fdivB (pv 2) (pv 1)) pa_nil)))
              (pss_one (ps_ret (pe_op op_mod (pv 2) (pv 1))))) pss_nil))))
      (pss_cons (ps_asg (pe_op op_add (pe_ix ix_list (pv 0) pe_int (fun _ _ => rfl)) pe_int) (pg_sub (pv 0) pe_int set_list (by intro _; rfl)) (by rfl) (by rfl) (by rfl))
      (pss_cons (ps_set (i := 3) scPour.nd rfl (.inl rfl) (pe_op op_mod (pe_op op_add (pe_ix ix_list (pv 0) pe_int (fun _ _ => rfl)) (pe_op op_mul pe_int (pe_ix ix_list (pv 0) pe_int (fun _ _ => rfl)))) pe_int))
      (pss_cons (ps_set (i := 3) scPour.nd rfl (.inl rfl) (pe_op op_mod (pe_op op_mul (pe_op op_mod (pe_op op_mul (pv 3) (pv 3)) pe_int) pe_int) pe_int))
      (pss_one (ps_ret (pe_op op_mod (pe_op op_fdivB (pe_op op_mod (pe_op op_mul (pe_op op_add (pv 3) (pe_ix ix_list (pv 0) pe_int (fun _ _ => rfl))) (pv 3)) pe_int) pe_int) (pv 1))))))), ?_⟩
    obtain ⟨r, l, gs, m, rfl, hb, m0, m1, q⟩ := h
    have nrl := hb.ne
    have a0 : ∀ a b c : V, atI [a, b, c] 0 = some a := fun _ _ _ => rfl
    have a1 : ∀ a b c : V, atI [a, b, c] 1 = some b := fun _ _ _ => rfl
    have a2 : ∀ a b c : V, atI [a, b, c] 2 = some c := fun _ _ _ => rfl
    refine ⟨fun k σ H' => ∃ x2 gs', k = List.length gs' ∧ σ = [some (.ref r), some (.int m), x2, none] ∧ KeepJ r l H H' ∧ jugAt r l gs' H', ⟨_, none, gs, rfl, rfl, .refl, hb⟩, ?_⟩
    rintro k σ H1 ⟨x2, gs', rfl, rfl, kp, x, n, hr1, hl1, hz1⟩
    refine ⟨.ref r, rfl, r, _, _, .ref l, rfl, rfl, SqL.of hr1, a0 _ _ _, Nat.zero_le _, fun p hp => ?_⟩
    have pr : r ≠ p := ne_of_none hr1 hp
    have pl : l ≠ p := ne_of_none hl1 hp
    have hr2 : (upd H1 p (.lst [])) r = some (.lst [.ref l, .int x, .int n]) := by rw [upd_ne pr]; exact hr1
    have hl2 : (upd H1 p (.lst [])) l = some (.lst (gs'.map V.int)) := by rw [upd_ne pl]; exact hl1
    have kp2 : KeepJ r l H (upd H1 p (.lst [])) := kp.upd (.inr (.inr hp))
    refine ⟨.list (gs'.map PyData.int), .list [], .lst hl2 not_false (.of_ints _), .lst upd_same not_false .nil, (by simp only [PyData.plain]; exact plain_ints gs'), rfl, .inr (by decide), _, rfl, ?_⟩
    generalize upd H1 p (.lst []) = H2 at hr2 hl2 kp2
    cases gs' with
    | cons g gs1 =>
      refine ⟨fun σ H' => ∃ m', m' < (g :: gs1).length ∧ ∃ x2 gs'', m' = List.length gs'' ∧ σ = [some (.ref r), some (.int m), x2, none] ∧ KeepJ r l H H' ∧ jugAt r l gs'' H', fun σ' H' h => h, ?_⟩
      obtain ⟨z, hz⟩ : ∃ z, (g :: gs1)[(g :: gs1).length - 1]? = some z := ⟨_, List.getElem?_eq_getElem (by simp)⟩
      have hzm : ((g :: gs1).map V.int)[((g :: gs1).map V.int).length - 1]? = some (.int z) := by rw [List.length_map, List.getElem?_map, hz]; rfl
      have edl : ((g :: gs1).map V.int).dropLast = ((g :: gs1).dropLast).map V.int := by rw [List.map_dropLast]
      have hdl : ((g :: gs1).dropLast).length = gs1.length := by simp
      refine ⟨.ref r, rfl, r, _, _, .ref l, rfl, rfl, SqL.of hr2, a0 _ _ _, .inl ⟨rfl, _, SqL.of hl2⟩, l, _, .int z, rfl, rfl, hl2, hzm, ?_⟩
      rw [edl]
      generalize (g :: gs1).dropLast = gd at hdl
      have hr3 : (upd H2 l (.lst (gd.map V.int))) r = some (.lst [.ref l, .int x, .int n]) := by rw [upd_ne nrl]; exact hr2
      have hl3 : (upd H2 l (.lst (gd.map V.int))) l = some (.lst (gd.map V.int)) := upd_same
      have kp3 : KeepJ r l H (upd H2 l (.lst (gd.map V.int))) := kp2.upd (.inr (.inl rfl))
      generalize upd H2 l (.lst (gd.map V.int)) = H3 at hr3 hl3 kp3
      have hz1' : gs1.length + 1 ≤ 63 := hz1
      refine ⟨.int z, rfl, z, 0, rfl, rfl, _, rfl, ite2 (fun c => ?_) (fun c => ?_)⟩
      · refine ⟨.ref r, rfl, r, _, _, .ref l, rfl, rfl, SqL.of hr3, a0 _ _ _, .inl ⟨rfl, _, SqL.of hl3⟩, .int z, rfl, .int m, rfl, z, m, rfl, rfl, ⟨by omega, by omega⟩, ?_⟩
        have hl : gd.length < sizeLine := Nat.lt_of_le_of_lt (show gd.length ≤ 63 by omega) (by decide)
        refine ⟨l, _, _, rfl, rfl, hl3, by rw [List.length_map]; exact hl, ?_⟩
        have e4 : gd.map V.int ++ [V.int (z.fdiv m)] = (gd ++ [z.fdiv m]).map V.int := by simp
        dsimp only
        rw [e4]
        have b4 : jugAt r l (gd ++ [z.fdiv m]) (upd H3 l (.lst ((gd ++ [z.fdiv m]).map V.int))) := ⟨x, n, by rw [upd_ne nrl]; exact hr3, upd_same, by simp; omega⟩
        exact ⟨.int z, rfl, .int m, rfl, z, m, rfl, rfl, m0, q _ _ _ (kp3.upd (.inr (.inl rfl))) b4 (Int.emod_nonneg _ (by omega)) (Int.emod_lt_of_pos _ m0)⟩
      · exact ⟨gd.length, by simp; omega, some (.int z), gd, rfl, rfl, kp3, x, n, hr3, hl3, by omega⟩
    | nil =>
      refine ⟨.ref r, rfl, r, _, _, .int n, rfl, rfl, SqL.of hr2, a2 _ _ _, n, 1, rfl, rfl, ?_⟩
      refine ⟨.ref r, rfl, r, _, 2, 2, rfl, rfl, hr2, rfl, ?_⟩
      have kp3 : KeepJ r l H (upd H2 r (.lst [.ref l, .int x, .int (n + 1)])) := kp2.upd (.inl rfl)
      have hr3 : upd H2 r (.lst [.ref l, .int x, .int (n + 1)]) r = some (.lst [.ref l, .int x, .int (n + 1)]) := upd_same
      have hl3 : upd H2 r (.lst [.ref l, .int x, .int (n + 1)]) l = some (.lst (([] : List Int).map V.int)) := by rw [upd_ne nrl.symm]; exact hl2
      refine ⟨.ref r, rfl, r, _, _, .int x, rfl, rfl, SqL.of hr3, a1 _ _ _, .ref r, rfl, r, _, _, .int (n + 1), rfl, rfl, SqL.of hr3, a2 _ _ _, 2654435761, n + 1, rfl, rfl, .inl ⟨by decide, by decide⟩, x, _, rfl, rfl, _, 4294967291, rfl, rfl, (show (0 : Int) < 4294967291 by decide), ?_⟩
      dsimp only
      generalize hs1 : (x + 2654435761 * (n + 1)) % 4294967291 = s1
      have w1 : 0 ≤ s1 ∧ s1 < 4294967291 := by rw [← hs1]; exact ⟨Int.emod_nonneg _ (by decide), Int.emod_lt_of_pos _ (by decide)⟩
      refine ⟨.int s1, rfl, .int s1, rfl, s1, s1, rfl, rfl, .inl ⟨by omega, by omega⟩, _, 4294967279, rfl, rfl, (show (0 : Int) < 4294967279 by decide), _, 40503, rfl, rfl, .inr ⟨by decide, by decide⟩, _, 4294967291, rfl, rfl, (show (0 : Int) < 4294967291 by decide), ?_⟩
      dsimp only
      generalize hs2 : s1 * s1 % 4294967279 * 40503 % 4294967291 = s2
      have w2 : 0 ≤ s2 ∧ s2 < 4294967291 := by rw [← hs2]; exact ⟨Int.emod_nonneg _ (by decide), Int.emod_lt_of_pos _ (by decide)⟩
      refine ⟨.int s2, rfl, .ref r, rfl, r, _, _, .int (n + 1), rfl, rfl, SqL.of hr3, a2 _ _ _, s2, n + 1, rfl, rfl, .int s2, rfl, _, s2, rfl, rfl, .inr ⟨by omega, by omega⟩, _, 4294967291, rfl, rfl, (show (0 : Int) < 4294967291 by decide), _, 32, rfl, rfl, ⟨by decide, by decide⟩, .int m, rfl, _, m, rfl, rfl, m0, ?_⟩
      exact q _ _ _ kp3 ⟨x, n + 1, hr3, hl3, by simp⟩ (Int.emod_nonneg _ (by omega)) (Int.emod_lt_of_pos _ m0)
theorem ok_jug {k : Nat} (F : Fun K "_law_jug" "_law_jug" sJug f fd) (ma : mg "abs" = none) (ml : mg "len" = none) (ms : mg "sum" = none) (mo : mg "sorted" = none) : FnOk P w K mg base (L2.CX P w) (k + 1) f fd ["_law_script"] (spJug K) := by
  refine F.okX scJug (fun vs H Q E h => ?_) (fun cdv A outer s H vs Q E hr h => ?_)
  · obtain ⟨a, ns, rfl, _⟩ := h
    rfl
  · have hu := hr.units
    have h1 := hu_of hr
    refine ⟨_, pss_cons (ps_setLc (i := 1) (own := [("_law_cell", 2)]) rfl scJug.nd rfl rfl (by rfl) (pi_list (pe_slice sl_list (pv 0) po_none (po_some pe_int))) (blkOk_by (N := ["_law_script", "_law_cells", "_law_cell"]) (sc := defScope sJug) (by decide +kernel))
        (fun _ _ _ _ _ => pg_name (i := 2) scJug.nd rfl (.inl rfl)) (fun _ _ _ _ _ => pts_nil) (fun _ _ _ _ _ => pe_callB call_abs (by rfl) ma boot_abs (pa_cons (pv 2) pa_nil)))
      (pss_one (ps_ret (pe_lst (pa_cons (pe_callB cr_sortedI (by rfl) mo bb_sorted (pa_cons (vn_lc (b := bg0) (W := noW) (own := [("_law_cell", 2)]) rfl scJug.nd (vib_src (vx_var (pv 1))) (blkOk_by (N := ["_law_script", "_law_cells", "_law_cell"]) (sc := defScope sJug) (by decide +kernel)) (by decide)
          (fun _ _ _ _ _ => vg_name (i := 2) scJug.nd rfl (.inl rfl)) (fun _ _ _ _ _ => vts_one (vt_ge (vx_var (pv 2)) (VE.toX (ve_pow (VE.toX ve_int) (VE.toX ve_int))))) (fun _ _ _ _ _ => ve_var (pv 2))) pa_nil))
        (pa_cons (pe_op op_add (pe_op op_add (pe_op op_mod (pe_callB (cr_sum rfl) (by rfl) ms bb_sum (pa_cons (pv 1) pa_nil)) pe_int) (pe_op op_mul pe_int (pe_callB call_len_seq (by rfl) ml PySem.boot_len (pa_cons (pv 1) pa_nil)))) pe_int) (pa_cons pe_int pa_nil)))))), ?_⟩
    obtain ⟨a, ns, rfl, hS, hl, q⟩ := h
    -- the cells
    refine ⟨.ref a, rfl, 56, rfl, a, _, rfl, hS, fun p hp => ?_⟩
    obtain ⟨ms, ems, hms⟩ := cut_ints ns none (some 56)
    rw [ems]
    refine ⟨p, rfl, ⟨_, SqL.of upd_same⟩, fun D hD => ?_⟩
    have hz : ms.length ≤ 1000 := by omega
    have keep : ∀ {H1 H2 : Hp} {b : Addr} {o : HO}, (∀ c o, H1 c = some o → H2 c = some o) → H2 b = none → ∀ c o', H1 c = some o' → upd H2 b o c = some o' := fun {H1 H2 b o} k hn c o' e => by rw [upd_ne (ne_of_none (k c o' e) hn)]; exact k c o' e
    refine lc_list (xs := ms.map V.int) (fun i H' => (∀ c o, H c = some o → H' c = some o) ∧ H' p = some (.lst (ms.map V.int)) ∧ H D = none ∧ D ≠ p ∧ H' D = some (.lst (((ms.take i).map absI).map V.int))) ?_ (fun i H' _ h => SqL.of h.2.1) ?_ ?_
    · have np : D ≠ p := fun e => by rw [e, upd_same] at hD; cases hD
      refine ⟨keep (keep (fun _ _ e => e) hp) hD, by rw [upd_ne np.symm]; exact upd_same, ?_, np, by rw [upd_same]; rfl⟩
      rw [upd_ne np] at hD
      exact hD
    · intro i x H' hx ⟨k, e2, np, npp, e3⟩
      rw [List.getElem?_map] at hx
      cases em : ms[i]? with
      | none => rw [em] at hx; cases hx
      | some m =>
        rw [em] at hx
        cases hx
        have hi : i < ms.length := (List.getElem?_eq_some_iff.mp em).1
        have nd : ∀ c o, H c = some o → c ≠ D := fun c o e z => by rw [z, np] at e; cases e
        refine ⟨rfl, ?_⟩
        unfold tYes
        dsimp only
        rw [if_pos rfl]
        refine ⟨.int m, rfl, m, rfl, _, e3, ?_, fun c o e => ?_, ?_, np, npp, ?_⟩
        · rw [List.length_map, List.length_map, List.length_take]
          exact Nat.lt_of_le_of_lt (show min i ms.length ≤ 1000 by omega) (by decide)
        · rw [upd_ne (nd c o e)]
          exact k c o e
        · rw [upd_ne npp.symm]
          exact e2
        · rw [upd_same, List.take_add_one, em]
          simp
    · intro H1 ⟨k, e2, np, npp, e3⟩
      rw [List.length_map, List.take_length] at e3
      have hcs : (ms.map absI).length ≤ 63 := by rw [List.length_map]; omega
      generalize ms.map absI = cs at e3 hcs
      refine ⟨nz, nz, [.un, .shr (.py (.list (cs.map PyData.int))), .un], fun d => d = .py (.list ((bigs (10 ^ 18) cs).map PyData.int)), noE, VOk.plain rfl ?_, ⟨?_, _, .inl rfl, ?_⟩, fun v H3 d x3 g3 ⟨l1, e4, n1, ow⟩ ed => ?_, fun _ _ _ _ _ _ _ h => h⟩
      · intro i s hs
        match i, hs with
        | 0, hs => cases hs; exact .inl rfl
        | 1, hs => cases hs; exact .inr ⟨_, .ref D, rfl, rfl, Rq.lst e3 not_false (.of_ints cs)⟩
        | 2, hs => cases hs; exact .inl rfl
      · intro i hi d e
        rw [List.mem_singleton.mp hi] at e
        cases e
      · refine bigs_go (k := 10 ^ 18) ?_ (fun ρ c Q E e q => ⟨_, .inl e, ⟨by decide, by decide, by decide⟩, _, rfl, q⟩) (fun ρ d Q E e q => ⟨d, e, q⟩) cs [] (by simp; omega) rfl
        show 2 < 3
        decide
      subst e4 ed
      obtain ⟨xs1, hl1, rq1⟩ := ow
      have ex1 := rq1.ints
      subst ex1
      have x3' : ∀ c o, H1 c = some o → H3 c = some o := fun c o e => x3 c o e not_false
      have D3 := x3' _ _ e3
      refine ⟨l1, _, rfl, SqL.of hl1, fun gs p1 hperm hsort hp1 => ?_⟩
      have hgs : gs.length ≤ 63 := by
        rw [hperm.length_eq]
        exact Nat.le_trans (List.length_filter_le _ _) hcs
      have hl2 : (upd H3 p1 (.lst (gs.map V.int))) p1 = some (.lst (gs.map V.int)) := upd_same
      have D4 : (upd H3 p1 (.lst (gs.map V.int))) D = some (.lst (cs.map V.int)) := by rw [upd_ne (ne_of_none D3 hp1)]; exact D3
      have kp4 : ∀ c o, H c = some o → upd H3 p1 (.lst (gs.map V.int)) c = some o := fun c o e => by rw [upd_ne (ne_of_none (x3' _ _ (k c o e)) hp1)]; exact x3' _ _ (k c o e)
      generalize upd H3 p1 (.lst (gs.map V.int)) = H4 at hl2 D4 kp4
      refine ⟨.ref D, rfl, D, cs, rfl, SqL.of D4, _, 4294967291, rfl, rfl, (show (0 : Int) < 4294967291 by decide), .ref D, rfl, D, _, rfl, .inl (SqL.of D4), 41, _, rfl, rfl, .inl ⟨by decide, by decide⟩, _, _, rfl, rfl, _, 7, rfl, rfl, Nat.le_trans (show 3 ≤ 1000 by decide) (by decide), fun r hr => ?_⟩
      exact q r p1 _ (fun c o e => by rw [upd_ne (ne_of_none (kp4 c o e) hr)]; exact kp4 c o e) ⟨gs, _, _, upd_same, by rw [upd_ne (ne_of_none hl2 hr)]; exact hl2, hgs⟩
end
end LawP
set_option Elab.async false
set_option linter.all false
set_option maxRecDepth 100000
set_option maxHeartbeats 4000000
namespace LawP
open PySem PySem.Spec PyProof.Rows L2 VL
theorem all_mk {l : PySem.W.OpenLaw} {w : World} {K : PySem.W.Frag} {h : Heap} {mg : Str → Option Value} {fa : Addr} (X : K.In h) (G : h.Ns mainGlobals mg) (hfa : mg "law" = some (.ref fa))
    (d41 : DefK K "_law_jug" (topS 41)) (d42 : DefK K "_law_pour" (topS 42)) (d43 : DefK K "_law_row" (topS 43)) (d45 : DefK K "_law_mixed" (topS 45)) (d16 : DefK K "is_number" (topS 16)) (d17 : DefK K "is_order" (topS 17)) (d18 : DefK K "require_order" (topS 18)) (d19 : DefK K "places_in" (topS 19)) (d7 : DefK K "mates" (topS 7)) (d20 : DefK K "kind_of" (topS 20)) (d21 : DefK K "kinds_of" (topS 21)) (d22 : DefK K "misplaced" (topS 22)) (d23 : DefK K "least_counts" (topS 23)) (d24 : DefK K "greatest_counts" (topS 24)) (d25 : DefK K "clashes" (topS 25)) (d26 : DefK K "is_possible" (topS 26)) (d46 : DefK K "_law_swapped" (topS 46)) (d37 : DefK K "require_short" (topS 37)) (d35 : DefK K "order_of_joiners" (topS 35)) (d36 : DefK K "choices" (topS 36)) (d38 : DefK K "possible_orders" (topS 38)) (d39 : DefK K "count_possible" (topS 39)) (d29 : DefK K "word_with" (topS 29)) (d27 : DefK K "stairs" (topS 27)) (d30 : DefK K "verdict" (topS 30)) (d31 : DefK K "counts_in" (topS 31)) (d32 : DefK K "fits" (topS 32)) (d33 : DefK K "history_holds" (topS 33)) (d34 : DefK K "verdict_holds" (topS 34)) (d47 : DefK K "_law_one_right" (topS 47)) (d28 : DefK K "bounds_of" (topS 28)) (d48 : DefK K "_law_alike" (topS 48)) (d49 : DefK K "law" (topS 49))
    {t0 : Tok} (m0 : PySem.W.nsIn K mainGlobals "BOTH" = some (some (.str "both" t0))) {t1 : Tok} (m1 : PySem.W.nsIn K mainGlobals "NEAR" = some (some (.str "near" t1))) {t2 : Tok} (m2 : PySem.W.nsIn K mainGlobals "LEADS" = some (some (.str "leads" t2))) {t3 : Tok} (m3 : PySem.W.nsIn K mainGlobals "NONE" = some (some (.str "none" t3))) {t4 : Tok} (m4 : PySem.W.nsIn K mainGlobals "SMALL" = some (some (.int 10 t4))) {t5 : Tok} (m5 : PySem.W.nsIn K mainGlobals "PLACE" = some (some (.str "place" t5))) {t6 : Tok} (m6 : PySem.W.nsIn K mainGlobals "CLASH" = some (some (.str "clash" t6))) {t7 : Tok} (m7 : PySem.W.nsIn K mainGlobals "HISTORY" = some (some (.str "history" t7)))
    (z_range : PySem.W.nsIn K mainGlobals "range" = some none) (z_tuple : PySem.W.nsIn K mainGlobals "tuple" = some none) (z_list : PySem.W.nsIn K mainGlobals "list" = some none) (z_len : PySem.W.nsIn K mainGlobals "len" = some none) (z_isinstance : PySem.W.nsIn K mainGlobals "isinstance" = some none) (z_bool : PySem.W.nsIn K mainGlobals "bool" = some none) (z_int : PySem.W.nsIn K mainGlobals "int" = some none) (z_set : PySem.W.nsIn K mainGlobals "set" = some none) (z_all : PySem.W.nsIn K mainGlobals "all" = some none) (z_enumerate : PySem.W.nsIn K mainGlobals "enumerate" = some none) (z_zip : PySem.W.nsIn K mainGlobals "zip" = some none) (z_max : PySem.W.nsIn K mainGlobals "max" = some none) (z_min : PySem.W.nsIn K mainGlobals "min" = some none) (z_sorted : PySem.W.nsIn K mainGlobals "sorted" = some none) (z_str : PySem.W.nsIn K mainGlobals "str" = some none) (z_abs : PySem.W.nsIn K mainGlobals "abs" = some none) (z_sum : PySem.W.nsIn K mainGlobals "sum" = some none) (R_NoOrder : Rai0 K "NoOrder") (R_Impossible : Rai0 K "Impossible") (R_TooLarge : Rai1 K "TooLarge" "TooLarge.__init__" "limit" s_TooLarge) :
    ∃ fd : FuncData, (∀ (s : Shared) (v : Value), BindsTo s fd ⟨[v], []⟩ [("_law_script", v)]) ∧ ∀ base : Heap, K.In base → base.Ns mainGlobals mg → FnG l.prog w K mg base 11 fa fd ["_law_script"] (spLaw K) := by
  obtain ⟨f49, oc, kV, doc, pm, cdv, ct, od, an, osl, a, ql, qc, qp⟩ := d49.ex
  have e := hfa.symm.trans (PySem.W.mg_of X G a)
  cases e
  have y_range := PySem.W.mg_none_of X G z_range
  have y_tuple := PySem.W.mg_none_of X G z_tuple
  have y_list := PySem.W.mg_none_of X G z_list
  have y_len := PySem.W.mg_none_of X G z_len
  have y_isinstance := PySem.W.mg_none_of X G z_isinstance
  have y_bool := PySem.W.mg_none_of X G z_bool
  have y_int := PySem.W.mg_none_of X G z_int
  have y_set := PySem.W.mg_none_of X G z_set
  have y_all := PySem.W.mg_none_of X G z_all
  have y_enumerate := PySem.W.mg_none_of X G z_enumerate
  have y_zip := PySem.W.mg_none_of X G z_zip
  have y_max := PySem.W.mg_none_of X G z_max
  have y_min := PySem.W.mg_none_of X G z_min
  have y_sorted := PySem.W.mg_none_of X G z_sorted
  have y_str := PySem.W.mg_none_of X G z_str
  have y_abs := PySem.W.mg_none_of X G z_abs
  have y_sum := PySem.W.mg_none_of X G z_sum
  have c0 := PySem.W.mg_of X G m0
  have c1 := PySem.W.mg_of X G m1
  have c2 := PySem.W.mg_of X G m2
  have c3 := PySem.W.mg_of X G m3
  have c4 := PySem.W.mg_of X G m4
  have c5 := PySem.W.mg_of X G m5
  have c6 := PySem.W.mg_of X G m6
  have c7 := PySem.W.mg_of X G m7
  obtain ⟨f41, v41, F41, g41, p41, e41⟩ := d41.use X G
  have B41 := F41.binds (ps := ["_law_script"]) fun _ _ _ _ _ _ us hl => match us, hl with | [_], _ => rfl
  obtain ⟨f42, v42, F42, g42, p42, e42⟩ := d42.use X G
  have B42 := F42.binds (ps := ["_law_jug_here", "_law_many"]) fun _ _ _ _ _ _ us hl => match us, hl with | [_, _], _ => rfl
  obtain ⟨f43, v43, F43, g43, p43, e43⟩ := d43.use X G
  have B43 := F43.binds (ps := ["_law_jug_here", "_law_people"]) fun _ _ _ _ _ _ us hl => match us, hl with | [_, _], _ => rfl
  obtain ⟨f45, v45, F45, g45, p45, e45⟩ := d45.use X G
  have B45 := F45.binds (ps := ["_law_jug_here", "_law_items"]) fun _ _ _ _ _ _ us hl => match us, hl with | [_, _], _ => rfl
  obtain ⟨f16, v16, F16, g16, p16, e16⟩ := d16.use X G
  have B16 := F16.binds (ps := ["value", "low", "high"]) fun _ _ _ _ _ _ us hl => match us, hl with | [_, _, _], _ => rfl
  obtain ⟨f17, v17, F17, g17, p17, e17⟩ := d17.use X G
  have B17 := F17.binds (ps := ["row", "value"]) fun _ _ _ _ _ _ us hl => match us, hl with | [_, _], _ => rfl
  obtain ⟨f18, v18, F18, g18, p18, e18⟩ := d18.use X G
  have B18 := F18.binds (ps := ["row", "value"]) fun _ _ _ _ _ _ us hl => match us, hl with | [_, _], _ => rfl
  obtain ⟨f19, v19, F19, g19, p19, e19⟩ := d19.use X G
  have B19 := F19.binds (ps := ["order"]) fun _ _ _ _ _ _ us hl => match us, hl with | [_], _ => rfl
  obtain ⟨f7, v7, F7, g7, p7, e7⟩ := d7.use X G
  have B7 := F7.binds (ps := ["row"]) fun _ _ _ _ _ _ us hl => match us, hl with | [_], _ => rfl
  obtain ⟨f20, v20, F20, g20, p20, e20⟩ := d20.use X G
  have B20 := F20.binds (ps := ["is_near", "is_ahead"]) fun _ _ _ _ _ _ us hl => match us, hl with | [_, _], _ => rfl
  obtain ⟨f21, v21, F21, g21, p21, e21⟩ := d21.use X G
  have B21 := F21.binds (ps := ["row", "order"]) fun _ _ _ _ _ _ us hl => match us, hl with | [_, _], _ => rfl
  obtain ⟨f22, v22, F22, g22, p22, e22⟩ := d22.use X G
  have B22 := F22.binds (ps := ["row", "order"]) fun _ _ _ _ _ _ us hl => match us, hl with | [_, _], _ => rfl
  obtain ⟨f23, v23, F23, g23, p23, e23⟩ := d23.use X G
  have B23 := F23.binds (ps := ["row", "order"]) fun _ _ _ _ _ _ us hl => match us, hl with | [_, _], _ => rfl
  obtain ⟨f24, v24, F24, g24, p24, e24⟩ := d24.use X G
  have B24 := F24.binds (ps := ["row", "order"]) fun _ _ _ _ _ _ us hl => match us, hl with | [_, _], _ => rfl
  obtain ⟨f25, v25, F25, g25, p25, e25⟩ := d25.use X G
  have B25 := F25.binds (ps := ["row", "order"]) fun _ _ _ _ _ _ us hl => match us, hl with | [_, _], _ => rfl
  obtain ⟨f26, v26, F26, g26, p26, e26⟩ := d26.use X G
  have B26 := F26.binds (ps := ["row", "order"]) fun _ _ _ _ _ _ us hl => match us, hl with | [_, _], _ => rfl
  obtain ⟨f46, v46, F46, g46, p46, e46⟩ := d46.use X G
  have B46 := F46.binds (ps := ["_law_jug_here", "_law_order"]) fun _ _ _ _ _ _ us hl => match us, hl with | [_, _], _ => rfl
  obtain ⟨f37, v37, F37, g37, p37, e37⟩ := d37.use X G
  have B37 := F37.binds (ps := ["row"]) fun _ _ _ _ _ _ us hl => match us, hl with | [_], _ => rfl
  obtain ⟨f35, v35, F35, g35, p35, e35⟩ := d35.use X G
  have B35 := F35.binds (ps := ["row", "joiners"]) fun _ _ _ _ _ _ us hl => match us, hl with | [_, _], _ => rfl
  obtain ⟨f36, v36, F36, g36, p36, e36⟩ := d36.use X G
  have B36 := F36.binds (ps := ["row"]) fun _ _ _ _ _ _ us hl => match us, hl with | [_], _ => rfl
  obtain ⟨f38, v38, F38, g38, p38, e38⟩ := d38.use X G
  have B38 := F38.binds (ps := ["row"]) fun _ _ _ _ _ _ us hl => match us, hl with | [_], _ => rfl
  obtain ⟨f39, v39, F39, g39, p39, e39⟩ := d39.use X G
  have B39 := F39.binds (ps := ["row"]) fun _ _ _ _ _ _ us hl => match us, hl with | [_], _ => rfl
  obtain ⟨f29, v29, F29, g29, p29, e29⟩ := d29.use X G
  have B29 := F29.binds (ps := ["counts"]) fun _ _ _ _ _ _ us hl => match us, hl with | [_], _ => rfl
  obtain ⟨f27, v27, F27, g27, p27, e27⟩ := d27.use X G
  have B27 := F27.binds (ps := ["row", "order"]) fun _ _ _ _ _ _ us hl => match us, hl with | [_, _], _ => rfl
  obtain ⟨f30, v30, F30, g30, p30, e30⟩ := d30.use X G
  have B30 := F30.binds (ps := ["row", "order"]) fun _ _ _ _ _ _ us hl => match us, hl with | [_, _], _ => rfl
  obtain ⟨f31, v31, F31, g31, p31, e31⟩ := d31.use X G
  have B31 := F31.binds (ps := ["row", "word"]) fun _ _ _ _ _ _ us hl => match us, hl with | [_, _], _ => rfl
  obtain ⟨f32, v32, F32, g32, p32, e32⟩ := d32.use X G
  have B32 := F32.binds (ps := ["row", "order", "counts"]) fun _ _ _ _ _ _ us hl => match us, hl with | [_, _, _], _ => rfl
  obtain ⟨f33, v33, F33, g33, p33, e33⟩ := d33.use X G
  have B33 := F33.binds (ps := ["row", "order", "value"]) fun _ _ _ _ _ _ us hl => match us, hl with | [_, _, _], _ => rfl
  obtain ⟨f34, v34, F34, g34, p34, e34⟩ := d34.use X G
  have B34 := F34.binds (ps := ["row", "order", "value"]) fun _ _ _ _ _ _ us hl => match us, hl with | [_, _, _], _ => rfl
  obtain ⟨f47, v47, F47, g47, p47, e47⟩ := d47.use X G
  have B47 := F47.binds (ps := ["_law_row_here", "_law_order"]) fun _ _ _ _ _ _ us hl => match us, hl with | [_, _], _ => rfl
  obtain ⟨f28, v28, F28, g28, p28, e28⟩ := d28.use X G
  have B28 := F28.binds (ps := ["row", "order"]) fun _ _ _ _ _ _ us hl => match us, hl with | [_, _], _ => rfl
  obtain ⟨f48, v48, F48, g48, p48, e48⟩ := d48.use X G
  have B48 := F48.binds (ps := ["_law_row_here", "_law_order", "_law_other"]) fun _ _ _ _ _ _ us hl => match us, hl with | [_, _, _], _ => rfl
  obtain ⟨C_NoOrder, R_NoOrder⟩ := R_NoOrder.ex
  obtain ⟨C_Impossible, R_Impossible⟩ := R_Impossible.ex
  obtain ⟨C_TooLarge, R_TooLarge⟩ := R_TooLarge.ex
  have k_NoOrder : (clsOf [("NoOrder", C_NoOrder), ("Impossible", C_Impossible), ("TooLarge", C_TooLarge)] fa) "NoOrder" = C_NoOrder := clsOf_hd
  have k_Impossible : (clsOf [("NoOrder", C_NoOrder), ("Impossible", C_Impossible), ("TooLarge", C_TooLarge)] fa) "Impossible" = C_Impossible := (clsOf_tl (by decide +kernel)).trans (clsOf_hd)
  have k_TooLarge : (clsOf [("NoOrder", C_NoOrder), ("Impossible", C_Impossible), ("TooLarge", C_TooLarge)] fa) "TooLarge" = C_TooLarge := (clsOf_tl (by decide +kernel)).trans ((clsOf_tl (by decide +kernel)).trans (clsOf_hd))
  refine ⟨PySem.W.fnOf "law" "law" (defArgs (topS 49)) (defBody (topS 49)) (defScope (topS 49)) .none kV doc pm an cdv ct, fun s v => .of_eq rfl, fun base _ _ => ?_⟩
  have O42 : FnOk l.prog w K mg base (L2.CX l.prog w) 1 f42 v42 ["_law_jug_here", "_law_many"] spPour := ok_pour F42
  have O41 : FnOk l.prog w K mg base (L2.CX l.prog w) 1 f41 v41 ["_law_script"] (spJug K) := ok_jug (k := 0) F41 y_abs y_len y_sum y_sorted
  refine lawX (fun x : Addr × Addr => jugB (clsOf [("NoOrder", C_NoOrder), ("Impossible", C_Impossible), ("TooLarge", C_TooLarge)] fa) x.1 x.2) (fun x => x.1) (fun a ns H Q E h1 h2 h3 => ⟨a, ns, rfl, h1, h2, fun r l H2 _ hg => h3 (r, l) H2 hg⟩) (i := 1) (k := 10) (t := fun x => t_law (S_j_rowB x.1) S_possible_orders (svTake x.1) S_count_possible (S_j_mixed x.1) (S_j_swapped x.1) S_law_one_right S_law_alike S_is_possible) (fun_mk (st := topS 49) ql qc qp) sc_law rfl O41 g41 p41 B41 (by omega) (by decide) rfl rfl (by first | exact .inl rfl | exact .inr rfl) rfl rfl (fun ⟨r, l1⟩ cdv A outer s H E hr hgd tk => ?_) (fun x => l_law x.1)
  have RZ_NoOrder : RaiB K ((jugB (clsOf [("NoOrder", C_NoOrder), ("Impossible", C_Impossible), ("TooLarge", C_TooLarge)] fa) r l1).cls "NoOrder") "NoOrder" ∧ PySem.W.excIn K ((jugB (clsOf [("NoOrder", C_NoOrder), ("Impossible", C_Impossible), ("TooLarge", C_TooLarge)] fa) r l1).cls "NoOrder") veB "ValueError.__new__" = true := by
    show RaiB K ((clsOf [("NoOrder", C_NoOrder), ("Impossible", C_Impossible), ("TooLarge", C_TooLarge)] fa) "NoOrder") _ ∧ PySem.W.excIn K ((clsOf [("NoOrder", C_NoOrder), ("Impossible", C_Impossible), ("TooLarge", C_TooLarge)] fa) "NoOrder") _ _ = true
    rw [k_NoOrder]; exact R_NoOrder
  have RB_NoOrder := RZ_NoOrder.1
  have M_NoOrder := RB_NoOrder.mk0 RZ_NoOrder.2 X G
  have RZ_Impossible : RaiB K ((jugB (clsOf [("NoOrder", C_NoOrder), ("Impossible", C_Impossible), ("TooLarge", C_TooLarge)] fa) r l1).cls "Impossible") "Impossible" ∧ PySem.W.excIn K ((jugB (clsOf [("NoOrder", C_NoOrder), ("Impossible", C_Impossible), ("TooLarge", C_TooLarge)] fa) r l1).cls "Impossible") veB "ValueError.__new__" = true := by
    show RaiB K ((clsOf [("NoOrder", C_NoOrder), ("Impossible", C_Impossible), ("TooLarge", C_TooLarge)] fa) "Impossible") _ ∧ PySem.W.excIn K ((clsOf [("NoOrder", C_NoOrder), ("Impossible", C_Impossible), ("TooLarge", C_TooLarge)] fa) "Impossible") _ _ = true
    rw [k_Impossible]; exact R_Impossible
  have RB_Impossible := RZ_Impossible.1
  have M_Impossible := RB_Impossible.mk0 RZ_Impossible.2 X G
  have RI_TooLarge : RaiI K ((jugB (clsOf [("NoOrder", C_NoOrder), ("Impossible", C_Impossible), ("TooLarge", C_TooLarge)] fa) r l1).cls "TooLarge") "TooLarge" "TooLarge.__init__" "limit" s_TooLarge := by
    show RaiI K ((clsOf [("NoOrder", C_NoOrder), ("Impossible", C_Impossible), ("TooLarge", C_TooLarge)] fa) "TooLarge") _ _ _ _
    rw [k_TooLarge]; exact R_TooLarge
  have RB_TooLarge := RI_TooLarge.b
  obtain ⟨M_TooLarge⟩ := RI_TooLarge.mk1 (P := l.prog) (w := w) (base := base) (prm := "limit") X G (fun fa fd F => wi_TooLarge F) (fun _ _ _ _ _ _ us hl => match us, hl with | [_, _], _ => rfl)
  have EB : ∀ n ∈ (["NoOrder", "Impossible", "TooLarge"] : List Str), RaiB K ((jugB (clsOf [("NoOrder", C_NoOrder), ("Impossible", C_Impossible), ("TooLarge", C_TooLarge)] fa) r l1).cls n) n := fun n hn => by
    simp only [List.mem_cons, List.not_mem_nil, or_false] at hn
    rcases hn with rfl | rfl | rfl
    · exact RB_NoOrder
    · exact RB_Impossible
    · exact RB_TooLarge
  have EC : ∀ n ∈ (["NoOrder", "Impossible", "TooLarge"] : List Str), ErrC K ((jugB (clsOf [("NoOrder", C_NoOrder), ("Impossible", C_Impossible), ("TooLarge", C_TooLarge)] fa) r l1).cls n) := fun n hn => (EB n hn).ec
  have C42 : Cal l.prog w K mg base (jugB (clsOf [("NoOrder", C_NoOrder), ("Impossible", C_Impossible), ("TooLarge", C_TooLarge)] fa) r l1) 1 "_law_pour" ["_law_jug_here", "_law_many"] (svTake r) := ⟨f42, v42, (pour_v (cls := (clsOf [("NoOrder", C_NoOrder), ("Impossible", C_Impossible), ("TooLarge", C_TooLarge)] fa)) (r := r) O42), g42, p42, B42⟩
  have C43 : Cal l.prog w K mg base (jugB (clsOf [("NoOrder", C_NoOrder), ("Impossible", C_Impossible), ("TooLarge", C_TooLarge)] fa) r l1) 2 "_law_row" ["_law_jug_here", "_law_people"] (S_j_rowB r) := ⟨f43, v43, w_j_row F43 C42 y_range y_tuple (fun ds Q E h => by first | (simp only [S_j_rowB] at h; split at h <;> first | rfl | exact h.elim) | (obtain ⟨rfl, _⟩ := h; rfl) | (obtain ⟨_, rfl, _⟩ := h; rfl) | (obtain ⟨_, _, rfl, _⟩ := h; rfl) | (obtain ⟨_, _, _, rfl, _⟩ := h; rfl) | (obtain ⟨_, _, _, _, rfl, _⟩ := h; rfl) | (obtain ⟨_, _, _, _, _, rfl, _⟩ := h; rfl) | (obtain ⟨_, _, _, _, _, _, rfl, _⟩ := h; rfl) | (obtain ⟨_, _, _, _, _, _, _, rfl, _⟩ := h; rfl)) (l_j_rowB r), g43, p43, B43⟩
  have C45 : Cal l.prog w K mg base (jugB (clsOf [("NoOrder", C_NoOrder), ("Impossible", C_Impossible), ("TooLarge", C_TooLarge)] fa) r l1) 2 "_law_mixed" ["_law_jug_here", "_law_items"] (S_j_mixed r) := ⟨f45, v45, w_j_mixed F45 C42 y_list y_len y_tuple (fun ds Q E h => by first | (simp only [S_j_mixed] at h; split at h <;> first | rfl | exact h.elim) | (obtain ⟨rfl, _⟩ := h; rfl) | (obtain ⟨_, rfl, _⟩ := h; rfl) | (obtain ⟨_, _, rfl, _⟩ := h; rfl) | (obtain ⟨_, _, _, rfl, _⟩ := h; rfl) | (obtain ⟨_, _, _, _, rfl, _⟩ := h; rfl) | (obtain ⟨_, _, _, _, _, rfl, _⟩ := h; rfl) | (obtain ⟨_, _, _, _, _, _, rfl, _⟩ := h; rfl) | (obtain ⟨_, _, _, _, _, _, _, rfl, _⟩ := h; rfl)) (l_j_mixed r), g45, p45, B45⟩
  have C16 : Cal l.prog w K mg base (jugB (clsOf [("NoOrder", C_NoOrder), ("Impossible", C_Impossible), ("TooLarge", C_TooLarge)] fa) r l1) 1 "is_number" ["value", "low", "high"] S_is_number := ⟨f16, v16, w_is_number F16 y_isinstance y_bool y_int (fun ds Q E h => by first | (simp only [S_is_number] at h; split at h <;> first | rfl | exact h.elim) | (obtain ⟨rfl, _⟩ := h; rfl) | (obtain ⟨_, rfl, _⟩ := h; rfl) | (obtain ⟨_, _, rfl, _⟩ := h; rfl) | (obtain ⟨_, _, _, rfl, _⟩ := h; rfl) | (obtain ⟨_, _, _, _, rfl, _⟩ := h; rfl) | (obtain ⟨_, _, _, _, _, rfl, _⟩ := h; rfl) | (obtain ⟨_, _, _, _, _, _, rfl, _⟩ := h; rfl) | (obtain ⟨_, _, _, _, _, _, _, rfl, _⟩ := h; rfl)) l_is_number, g16, p16, B16⟩
  have C17 : Cal l.prog w K mg base (jugB (clsOf [("NoOrder", C_NoOrder), ("Impossible", C_Impossible), ("TooLarge", C_TooLarge)] fa) r l1) 2 "is_order" ["row", "value"] S_is_order := ⟨f17, v17, w_is_order F17 C16 y_isinstance y_tuple y_len y_set y_all (fun ds Q E h => by first | (simp only [S_is_order] at h; split at h <;> first | rfl | exact h.elim) | (obtain ⟨rfl, _⟩ := h; rfl) | (obtain ⟨_, rfl, _⟩ := h; rfl) | (obtain ⟨_, _, rfl, _⟩ := h; rfl) | (obtain ⟨_, _, _, rfl, _⟩ := h; rfl) | (obtain ⟨_, _, _, _, rfl, _⟩ := h; rfl) | (obtain ⟨_, _, _, _, _, rfl, _⟩ := h; rfl) | (obtain ⟨_, _, _, _, _, _, rfl, _⟩ := h; rfl) | (obtain ⟨_, _, _, _, _, _, _, rfl, _⟩ := h; rfl)) l_is_order, g17, p17, B17⟩
  have C18 : Cal l.prog w K mg base (jugB (clsOf [("NoOrder", C_NoOrder), ("Impossible", C_Impossible), ("TooLarge", C_TooLarge)] fa) r l1) 3 "require_order" ["row", "value"] S_require_order := ⟨f18, v18, w_require_order F18 C17 M_NoOrder (fun ds Q E h => by first | (simp only [S_require_order] at h; split at h <;> first | rfl | exact h.elim) | (obtain ⟨rfl, _⟩ := h; rfl) | (obtain ⟨_, rfl, _⟩ := h; rfl) | (obtain ⟨_, _, rfl, _⟩ := h; rfl) | (obtain ⟨_, _, _, rfl, _⟩ := h; rfl) | (obtain ⟨_, _, _, _, rfl, _⟩ := h; rfl) | (obtain ⟨_, _, _, _, _, rfl, _⟩ := h; rfl) | (obtain ⟨_, _, _, _, _, _, rfl, _⟩ := h; rfl) | (obtain ⟨_, _, _, _, _, _, _, rfl, _⟩ := h; rfl)) l_require_order, g18, p18, B18⟩
  have C19 : Cal l.prog w K mg base (jugB (clsOf [("NoOrder", C_NoOrder), ("Impossible", C_Impossible), ("TooLarge", C_TooLarge)] fa) r l1) 1 "places_in" ["order"] S_places_in := ⟨f19, v19, w_places_in F19 y_len y_enumerate (fun ds Q E h => by first | (simp only [S_places_in] at h; split at h <;> first | rfl | exact h.elim) | (obtain ⟨rfl, _⟩ := h; rfl) | (obtain ⟨_, rfl, _⟩ := h; rfl) | (obtain ⟨_, _, rfl, _⟩ := h; rfl) | (obtain ⟨_, _, _, rfl, _⟩ := h; rfl) | (obtain ⟨_, _, _, _, rfl, _⟩ := h; rfl) | (obtain ⟨_, _, _, _, _, rfl, _⟩ := h; rfl) | (obtain ⟨_, _, _, _, _, _, rfl, _⟩ := h; rfl) | (obtain ⟨_, _, _, _, _, _, _, rfl, _⟩ := h; rfl)) l_places_in, g19, p19, B19⟩
  have C7 : Cal l.prog w K mg base (jugB (clsOf [("NoOrder", C_NoOrder), ("Impossible", C_Impossible), ("TooLarge", C_TooLarge)] fa) r l1) 1 "mates" ["row"] S_mates := ⟨f7, v7, w_mates F7 y_enumerate y_tuple (fun ds Q E h => by first | (simp only [S_mates] at h; split at h <;> first | rfl | exact h.elim) | (obtain ⟨rfl, _⟩ := h; rfl) | (obtain ⟨_, rfl, _⟩ := h; rfl) | (obtain ⟨_, _, rfl, _⟩ := h; rfl) | (obtain ⟨_, _, _, rfl, _⟩ := h; rfl) | (obtain ⟨_, _, _, _, rfl, _⟩ := h; rfl) | (obtain ⟨_, _, _, _, _, rfl, _⟩ := h; rfl) | (obtain ⟨_, _, _, _, _, _, rfl, _⟩ := h; rfl) | (obtain ⟨_, _, _, _, _, _, _, rfl, _⟩ := h; rfl)) l_mates, g7, p7, B7⟩
  have C20 : Cal l.prog w K mg base (jugB (clsOf [("NoOrder", C_NoOrder), ("Impossible", C_Impossible), ("TooLarge", C_TooLarge)] fa) r l1) 1 "kind_of" ["is_near", "is_ahead"] S_kind_of := ⟨f20, v20, w_kind_of F20 ⟨_, c0⟩ ⟨_, c1⟩ ⟨_, c2⟩ ⟨_, c3⟩ (fun ds Q E h => by first | (simp only [S_kind_of] at h; split at h <;> first | rfl | exact h.elim) | (obtain ⟨rfl, _⟩ := h; rfl) | (obtain ⟨_, rfl, _⟩ := h; rfl) | (obtain ⟨_, _, rfl, _⟩ := h; rfl) | (obtain ⟨_, _, _, rfl, _⟩ := h; rfl) | (obtain ⟨_, _, _, _, rfl, _⟩ := h; rfl) | (obtain ⟨_, _, _, _, _, rfl, _⟩ := h; rfl) | (obtain ⟨_, _, _, _, _, _, rfl, _⟩ := h; rfl) | (obtain ⟨_, _, _, _, _, _, _, rfl, _⟩ := h; rfl)) l_kind_of, g20, p20, B20⟩
  have C21 : Cal l.prog w K mg base (jugB (clsOf [("NoOrder", C_NoOrder), ("Impossible", C_Impossible), ("TooLarge", C_TooLarge)] fa) r l1) 4 "kinds_of" ["row", "order"] S_kinds_of := ⟨f21, v21, w_kinds_of F21 C18 C19 C7 C20 y_zip y_max y_tuple (fun ds Q E h => by first | (simp only [S_kinds_of] at h; split at h <;> first | rfl | exact h.elim) | (obtain ⟨rfl, _⟩ := h; rfl) | (obtain ⟨_, rfl, _⟩ := h; rfl) | (obtain ⟨_, _, rfl, _⟩ := h; rfl) | (obtain ⟨_, _, _, rfl, _⟩ := h; rfl) | (obtain ⟨_, _, _, _, rfl, _⟩ := h; rfl) | (obtain ⟨_, _, _, _, _, rfl, _⟩ := h; rfl) | (obtain ⟨_, _, _, _, _, _, rfl, _⟩ := h; rfl) | (obtain ⟨_, _, _, _, _, _, _, rfl, _⟩ := h; rfl)) l_kinds_of, g21, p21, B21⟩
  have C22 : Cal l.prog w K mg base (jugB (clsOf [("NoOrder", C_NoOrder), ("Impossible", C_Impossible), ("TooLarge", C_TooLarge)] fa) r l1) 5 "misplaced" ["row", "order"] S_misplaced := ⟨f22, v22, w_misplaced F22 C21 ⟨_, c3⟩ y_tuple y_enumerate (fun ds Q E h => by first | (simp only [S_misplaced] at h; split at h <;> first | rfl | exact h.elim) | (obtain ⟨rfl, _⟩ := h; rfl) | (obtain ⟨_, rfl, _⟩ := h; rfl) | (obtain ⟨_, _, rfl, _⟩ := h; rfl) | (obtain ⟨_, _, _, rfl, _⟩ := h; rfl) | (obtain ⟨_, _, _, _, rfl, _⟩ := h; rfl) | (obtain ⟨_, _, _, _, _, rfl, _⟩ := h; rfl) | (obtain ⟨_, _, _, _, _, _, rfl, _⟩ := h; rfl) | (obtain ⟨_, _, _, _, _, _, _, rfl, _⟩ := h; rfl)) l_misplaced, g22, p22, B22⟩
  have C23 : Cal l.prog w K mg base (jugB (clsOf [("NoOrder", C_NoOrder), ("Impossible", C_Impossible), ("TooLarge", C_TooLarge)] fa) r l1) 5 "least_counts" ["row", "order"] S_least_counts := ⟨f23, v23, w_least_counts F23 C19 C21 C7 ⟨_, c2⟩ y_zip (fun ds Q E h => by first | (simp only [S_least_counts] at h; split at h <;> first | rfl | exact h.elim) | (obtain ⟨rfl, _⟩ := h; rfl) | (obtain ⟨_, rfl, _⟩ := h; rfl) | (obtain ⟨_, _, rfl, _⟩ := h; rfl) | (obtain ⟨_, _, _, rfl, _⟩ := h; rfl) | (obtain ⟨_, _, _, _, rfl, _⟩ := h; rfl) | (obtain ⟨_, _, _, _, _, rfl, _⟩ := h; rfl) | (obtain ⟨_, _, _, _, _, _, rfl, _⟩ := h; rfl) | (obtain ⟨_, _, _, _, _, _, _, rfl, _⟩ := h; rfl)) l_least_counts, g23, p23, B23⟩
  have C24 : Cal l.prog w K mg base (jugB (clsOf [("NoOrder", C_NoOrder), ("Impossible", C_Impossible), ("TooLarge", C_TooLarge)] fa) r l1) 5 "greatest_counts" ["row", "order"] S_greatest_counts := ⟨f24, v24, w_greatest_counts F24 C19 C21 C7 ⟨_, c1⟩ y_zip (fun ds Q E h => by first | (simp only [S_greatest_counts] at h; split at h <;> first | rfl | exact h.elim) | (obtain ⟨rfl, _⟩ := h; rfl) | (obtain ⟨_, rfl, _⟩ := h; rfl) | (obtain ⟨_, _, rfl, _⟩ := h; rfl) | (obtain ⟨_, _, _, rfl, _⟩ := h; rfl) | (obtain ⟨_, _, _, _, rfl, _⟩ := h; rfl) | (obtain ⟨_, _, _, _, _, rfl, _⟩ := h; rfl) | (obtain ⟨_, _, _, _, _, _, rfl, _⟩ := h; rfl) | (obtain ⟨_, _, _, _, _, _, _, rfl, _⟩ := h; rfl)) l_greatest_counts, g24, p24, B24⟩
  have C25 : Cal l.prog w K mg base (jugB (clsOf [("NoOrder", C_NoOrder), ("Impossible", C_Impossible), ("TooLarge", C_TooLarge)] fa) r l1) 6 "clashes" ["row", "order"] S_clashes := ⟨f25, v25, w_clashes F25 C24 C23 y_range y_len y_tuple (fun ds Q E h => by first | (simp only [S_clashes] at h; split at h <;> first | rfl | exact h.elim) | (obtain ⟨rfl, _⟩ := h; rfl) | (obtain ⟨_, rfl, _⟩ := h; rfl) | (obtain ⟨_, _, rfl, _⟩ := h; rfl) | (obtain ⟨_, _, _, rfl, _⟩ := h; rfl) | (obtain ⟨_, _, _, _, rfl, _⟩ := h; rfl) | (obtain ⟨_, _, _, _, _, rfl, _⟩ := h; rfl) | (obtain ⟨_, _, _, _, _, _, rfl, _⟩ := h; rfl) | (obtain ⟨_, _, _, _, _, _, _, rfl, _⟩ := h; rfl)) l_clashes, g25, p25, B25⟩
  have C26 : Cal l.prog w K mg base (jugB (clsOf [("NoOrder", C_NoOrder), ("Impossible", C_Impossible), ("TooLarge", C_TooLarge)] fa) r l1) 7 "is_possible" ["row", "order"] S_is_possible := ⟨f26, v26, w_is_possible F26 C25 C22 (fun ds Q E h => by first | (simp only [S_is_possible] at h; split at h <;> first | rfl | exact h.elim) | (obtain ⟨rfl, _⟩ := h; rfl) | (obtain ⟨_, rfl, _⟩ := h; rfl) | (obtain ⟨_, _, rfl, _⟩ := h; rfl) | (obtain ⟨_, _, _, rfl, _⟩ := h; rfl) | (obtain ⟨_, _, _, _, rfl, _⟩ := h; rfl) | (obtain ⟨_, _, _, _, _, rfl, _⟩ := h; rfl) | (obtain ⟨_, _, _, _, _, _, rfl, _⟩ := h; rfl) | (obtain ⟨_, _, _, _, _, _, _, rfl, _⟩ := h; rfl)) l_is_possible, g26, p26, B26⟩
  have C46 : Cal l.prog w K mg base (jugB (clsOf [("NoOrder", C_NoOrder), ("Impossible", C_Impossible), ("TooLarge", C_TooLarge)] fa) r l1) 2 "_law_swapped" ["_law_jug_here", "_law_order"] (S_j_swapped r) := ⟨f46, v46, w_j_swapped F46 C42 y_list y_range y_len y_tuple (fun ds Q E h => by first | (simp only [S_j_swapped] at h; split at h <;> first | rfl | exact h.elim) | (obtain ⟨rfl, _⟩ := h; rfl) | (obtain ⟨_, rfl, _⟩ := h; rfl) | (obtain ⟨_, _, rfl, _⟩ := h; rfl) | (obtain ⟨_, _, _, rfl, _⟩ := h; rfl) | (obtain ⟨_, _, _, _, rfl, _⟩ := h; rfl) | (obtain ⟨_, _, _, _, _, rfl, _⟩ := h; rfl) | (obtain ⟨_, _, _, _, _, _, rfl, _⟩ := h; rfl) | (obtain ⟨_, _, _, _, _, _, _, rfl, _⟩ := h; rfl)) (l_j_swapped r), g46, p46, B46⟩
  have C37 : Cal l.prog w K mg base (jugB (clsOf [("NoOrder", C_NoOrder), ("Impossible", C_Impossible), ("TooLarge", C_TooLarge)] fa) r l1) 3 "require_short" ["row"] S_require_short := ⟨f37, v37, w_require_short F37 ⟨_, c4⟩ y_len M_TooLarge (fun ds Q E h => by first | (simp only [S_require_short] at h; split at h <;> first | rfl | exact h.elim) | (obtain ⟨rfl, _⟩ := h; rfl) | (obtain ⟨_, rfl, _⟩ := h; rfl) | (obtain ⟨_, _, rfl, _⟩ := h; rfl) | (obtain ⟨_, _, _, rfl, _⟩ := h; rfl) | (obtain ⟨_, _, _, _, rfl, _⟩ := h; rfl) | (obtain ⟨_, _, _, _, _, rfl, _⟩ := h; rfl) | (obtain ⟨_, _, _, _, _, _, rfl, _⟩ := h; rfl) | (obtain ⟨_, _, _, _, _, _, _, rfl, _⟩ := h; rfl)) l_require_short, g37, p37, B37⟩
  have C35 : Cal l.prog w K mg base (jugB (clsOf [("NoOrder", C_NoOrder), ("Impossible", C_Impossible), ("TooLarge", C_TooLarge)] fa) r l1) 2 "order_of_joiners" ["row", "joiners"] S_order_of_joiners := ⟨f35, v35, w_order_of_joiners F35 C7 C19 y_enumerate y_len y_range y_max y_min y_tuple (fun ds Q E h => by first | (simp only [S_order_of_joiners] at h; split at h <;> first | rfl | exact h.elim) | (obtain ⟨rfl, _⟩ := h; rfl) | (obtain ⟨_, rfl, _⟩ := h; rfl) | (obtain ⟨_, _, rfl, _⟩ := h; rfl) | (obtain ⟨_, _, _, rfl, _⟩ := h; rfl) | (obtain ⟨_, _, _, _, rfl, _⟩ := h; rfl) | (obtain ⟨_, _, _, _, _, rfl, _⟩ := h; rfl) | (obtain ⟨_, _, _, _, _, _, rfl, _⟩ := h; rfl) | (obtain ⟨_, _, _, _, _, _, _, rfl, _⟩ := h; rfl)) l_order_of_joiners, g35, p35, B35⟩
  have C36 : Cal l.prog w K mg base (jugB (clsOf [("NoOrder", C_NoOrder), ("Impossible", C_Impossible), ("TooLarge", C_TooLarge)] fa) r l1) 2 "choices" ["row"] S_choices := ⟨f36, v36, w_choices F36 C7 y_enumerate (fun ds Q E h => by first | (simp only [S_choices] at h; split at h <;> first | rfl | exact h.elim) | (obtain ⟨rfl, _⟩ := h; rfl) | (obtain ⟨_, rfl, _⟩ := h; rfl) | (obtain ⟨_, _, rfl, _⟩ := h; rfl) | (obtain ⟨_, _, _, rfl, _⟩ := h; rfl) | (obtain ⟨_, _, _, _, rfl, _⟩ := h; rfl) | (obtain ⟨_, _, _, _, _, rfl, _⟩ := h; rfl) | (obtain ⟨_, _, _, _, _, _, rfl, _⟩ := h; rfl) | (obtain ⟨_, _, _, _, _, _, _, rfl, _⟩ := h; rfl)) l_choices, g36, p36, B36⟩
  have C38 : Cal l.prog w K mg base (jugB (clsOf [("NoOrder", C_NoOrder), ("Impossible", C_Impossible), ("TooLarge", C_TooLarge)] fa) r l1) 4 "possible_orders" ["row"] S_possible_orders := ⟨f38, v38, w_possible_orders F38 C37 C36 C35 y_tuple y_sorted y_set (fun ds Q E h => by first | (simp only [S_possible_orders] at h; split at h <;> first | rfl | exact h.elim) | (obtain ⟨rfl, _⟩ := h; rfl) | (obtain ⟨_, rfl, _⟩ := h; rfl) | (obtain ⟨_, _, rfl, _⟩ := h; rfl) | (obtain ⟨_, _, _, rfl, _⟩ := h; rfl) | (obtain ⟨_, _, _, _, rfl, _⟩ := h; rfl) | (obtain ⟨_, _, _, _, _, rfl, _⟩ := h; rfl) | (obtain ⟨_, _, _, _, _, _, rfl, _⟩ := h; rfl) | (obtain ⟨_, _, _, _, _, _, _, rfl, _⟩ := h; rfl)) l_possible_orders, g38, p38, B38⟩
  have C39 : Cal l.prog w K mg base (jugB (clsOf [("NoOrder", C_NoOrder), ("Impossible", C_Impossible), ("TooLarge", C_TooLarge)] fa) r l1) 5 "count_possible" ["row"] S_count_possible := ⟨f39, v39, w_count_possible F39 C38 y_len (fun ds Q E h => by first | (simp only [S_count_possible] at h; split at h <;> first | rfl | exact h.elim) | (obtain ⟨rfl, _⟩ := h; rfl) | (obtain ⟨_, rfl, _⟩ := h; rfl) | (obtain ⟨_, _, rfl, _⟩ := h; rfl) | (obtain ⟨_, _, _, rfl, _⟩ := h; rfl) | (obtain ⟨_, _, _, _, rfl, _⟩ := h; rfl) | (obtain ⟨_, _, _, _, _, rfl, _⟩ := h; rfl) | (obtain ⟨_, _, _, _, _, _, rfl, _⟩ := h; rfl) | (obtain ⟨_, _, _, _, _, _, _, rfl, _⟩ := h; rfl)) l_count_possible, g39, p39, B39⟩
  have C29 : Cal l.prog w K mg base (jugB (clsOf [("NoOrder", C_NoOrder), ("Impossible", C_Impossible), ("TooLarge", C_TooLarge)] fa) r l1) 1 "word_with" ["counts"] S_o_word_with := ⟨f29, v29, w_o_word_with F29 y_len (fun ds Q E h => by first | (simp only [S_o_word_with] at h; split at h <;> first | rfl | exact h.elim) | (obtain ⟨rfl, _⟩ := h; rfl) | (obtain ⟨_, rfl, _⟩ := h; rfl) | (obtain ⟨_, _, rfl, _⟩ := h; rfl) | (obtain ⟨_, _, _, rfl, _⟩ := h; rfl) | (obtain ⟨_, _, _, _, rfl, _⟩ := h; rfl) | (obtain ⟨_, _, _, _, _, rfl, _⟩ := h; rfl) | (obtain ⟨_, _, _, _, _, _, rfl, _⟩ := h; rfl) | (obtain ⟨_, _, _, _, _, _, _, rfl, _⟩ := h; rfl)) l_o_word_with, g29, p29, B29⟩
  have C27 : Cal l.prog w K mg base (jugB (clsOf [("NoOrder", C_NoOrder), ("Impossible", C_Impossible), ("TooLarge", C_TooLarge)] fa) r l1) 6 "stairs" ["row", "order"] S_stairs := ⟨f27, v27, w_stairs F27 C24 C23 y_tuple y_range y_len y_max y_min (fun ds Q E h => by first | (simp only [S_stairs] at h; split at h <;> first | rfl | exact h.elim) | (obtain ⟨rfl, _⟩ := h; rfl) | (obtain ⟨_, rfl, _⟩ := h; rfl) | (obtain ⟨_, _, rfl, _⟩ := h; rfl) | (obtain ⟨_, _, _, rfl, _⟩ := h; rfl) | (obtain ⟨_, _, _, _, rfl, _⟩ := h; rfl) | (obtain ⟨_, _, _, _, _, rfl, _⟩ := h; rfl) | (obtain ⟨_, _, _, _, _, _, rfl, _⟩ := h; rfl) | (obtain ⟨_, _, _, _, _, _, _, rfl, _⟩ := h; rfl)) l_stairs, g27, p27, B27⟩
  have C30 : Cal l.prog w K mg base (jugB (clsOf [("NoOrder", C_NoOrder), ("Impossible", C_Impossible), ("TooLarge", C_TooLarge)] fa) r l1) 7 "verdict" ["row", "order"] S_verdict := ⟨f30, v30, w_verdict F30 C25 C22 C29 C27 ⟨_, c5⟩ ⟨_, c6⟩ ⟨_, c7⟩ (fun ds Q E h => by first | (simp only [S_verdict] at h; split at h <;> first | rfl | exact h.elim) | (obtain ⟨rfl, _⟩ := h; rfl) | (obtain ⟨_, rfl, _⟩ := h; rfl) | (obtain ⟨_, _, rfl, _⟩ := h; rfl) | (obtain ⟨_, _, _, rfl, _⟩ := h; rfl) | (obtain ⟨_, _, _, _, rfl, _⟩ := h; rfl) | (obtain ⟨_, _, _, _, _, rfl, _⟩ := h; rfl) | (obtain ⟨_, _, _, _, _, _, rfl, _⟩ := h; rfl) | (obtain ⟨_, _, _, _, _, _, _, rfl, _⟩ := h; rfl)) l_verdict, g30, p30, B30⟩
  have C31 : Cal l.prog w K mg base (jugB (clsOf [("NoOrder", C_NoOrder), ("Impossible", C_Impossible), ("TooLarge", C_TooLarge)] fa) r l1) 1 "counts_in" ["row", "word"] S_counts_in := ⟨f31, v31, w_counts_in F31 y_len (fun ds Q E h => by first | (simp only [S_counts_in] at h; split at h <;> first | rfl | exact h.elim) | (obtain ⟨rfl, _⟩ := h; rfl) | (obtain ⟨_, rfl, _⟩ := h; rfl) | (obtain ⟨_, _, rfl, _⟩ := h; rfl) | (obtain ⟨_, _, _, rfl, _⟩ := h; rfl) | (obtain ⟨_, _, _, _, rfl, _⟩ := h; rfl) | (obtain ⟨_, _, _, _, _, rfl, _⟩ := h; rfl) | (obtain ⟨_, _, _, _, _, _, rfl, _⟩ := h; rfl) | (obtain ⟨_, _, _, _, _, _, _, rfl, _⟩ := h; rfl)) l_counts_in, g31, p31, B31⟩
  have C32 : Cal l.prog w K mg base (jugB (clsOf [("NoOrder", C_NoOrder), ("Impossible", C_Impossible), ("TooLarge", C_TooLarge)] fa) r l1) 6 "fits" ["row", "order", "counts"] S_fits := ⟨f32, v32, w_fits F32 C24 C23 y_all y_zip (fun ds Q E h => by first | (simp only [S_fits] at h; split at h <;> first | rfl | exact h.elim) | (obtain ⟨rfl, _⟩ := h; rfl) | (obtain ⟨_, rfl, _⟩ := h; rfl) | (obtain ⟨_, _, rfl, _⟩ := h; rfl) | (obtain ⟨_, _, _, rfl, _⟩ := h; rfl) | (obtain ⟨_, _, _, _, rfl, _⟩ := h; rfl) | (obtain ⟨_, _, _, _, _, rfl, _⟩ := h; rfl) | (obtain ⟨_, _, _, _, _, _, rfl, _⟩ := h; rfl) | (obtain ⟨_, _, _, _, _, _, _, rfl, _⟩ := h; rfl)) l_fits, g32, p32, B32⟩
  have C33 : Cal l.prog w K mg base (jugB (clsOf [("NoOrder", C_NoOrder), ("Impossible", C_Impossible), ("TooLarge", C_TooLarge)] fa) r l1) 8 "history_holds" ["row", "order", "value"] S_history_holds := ⟨f33, v33, w_history_holds F33 C26 C31 C32 y_isinstance y_str (fun ds Q E h => by first | (simp only [S_history_holds] at h; split at h <;> first | rfl | exact h.elim) | (obtain ⟨rfl, _⟩ := h; rfl) | (obtain ⟨_, rfl, _⟩ := h; rfl) | (obtain ⟨_, _, rfl, _⟩ := h; rfl) | (obtain ⟨_, _, _, rfl, _⟩ := h; rfl) | (obtain ⟨_, _, _, _, rfl, _⟩ := h; rfl) | (obtain ⟨_, _, _, _, _, rfl, _⟩ := h; rfl) | (obtain ⟨_, _, _, _, _, _, rfl, _⟩ := h; rfl) | (obtain ⟨_, _, _, _, _, _, _, rfl, _⟩ := h; rfl)) l_history_holds, g33, p33, B33⟩
  have C34 : Cal l.prog w K mg base (jugB (clsOf [("NoOrder", C_NoOrder), ("Impossible", C_Impossible), ("TooLarge", C_TooLarge)] fa) r l1) 9 "verdict_holds" ["row", "order", "value"] S_verdict_holds := ⟨f34, v34, w_verdict_holds F34 C25 C22 C16 C33 ⟨_, c7⟩ ⟨_, c5⟩ ⟨_, c6⟩ y_isinstance y_tuple y_len y_str y_all (fun ds Q E h => by first | (simp only [S_verdict_holds] at h; split at h <;> first | rfl | exact h.elim) | (obtain ⟨rfl, _⟩ := h; rfl) | (obtain ⟨_, rfl, _⟩ := h; rfl) | (obtain ⟨_, _, rfl, _⟩ := h; rfl) | (obtain ⟨_, _, _, rfl, _⟩ := h; rfl) | (obtain ⟨_, _, _, _, rfl, _⟩ := h; rfl) | (obtain ⟨_, _, _, _, _, rfl, _⟩ := h; rfl) | (obtain ⟨_, _, _, _, _, _, rfl, _⟩ := h; rfl) | (obtain ⟨_, _, _, _, _, _, _, rfl, _⟩ := h; rfl)) l_verdict_holds, g34, p34, B34⟩
  have C47 : Cal l.prog w K mg base (jugB (clsOf [("NoOrder", C_NoOrder), ("Impossible", C_Impossible), ("TooLarge", C_TooLarge)] fa) r l1) 10 "_law_one_right" ["_law_row_here", "_law_order"] S_law_one_right := ⟨f47, v47, w_law_one_right F47 C25 C22 C30 C26 C34 y_range y_len (fun ds Q E h => by first | (simp only [S_law_one_right] at h; split at h <;> first | rfl | exact h.elim) | (obtain ⟨rfl, _⟩ := h; rfl) | (obtain ⟨_, rfl, _⟩ := h; rfl) | (obtain ⟨_, _, rfl, _⟩ := h; rfl) | (obtain ⟨_, _, _, rfl, _⟩ := h; rfl) | (obtain ⟨_, _, _, _, rfl, _⟩ := h; rfl) | (obtain ⟨_, _, _, _, _, rfl, _⟩ := h; rfl) | (obtain ⟨_, _, _, _, _, _, rfl, _⟩ := h; rfl) | (obtain ⟨_, _, _, _, _, _, _, rfl, _⟩ := h; rfl)) l_law_one_right, g47, p47, B47⟩
  have C28 : Cal l.prog w K mg base (jugB (clsOf [("NoOrder", C_NoOrder), ("Impossible", C_Impossible), ("TooLarge", C_TooLarge)] fa) r l1) 8 "bounds_of" ["row", "order"] S_bounds_of := ⟨f28, v28, w_bounds_of F28 C26 C27 M_Impossible (fun ds Q E h => by first | (simp only [S_bounds_of] at h; split at h <;> first | rfl | exact h.elim) | (obtain ⟨rfl, _⟩ := h; rfl) | (obtain ⟨_, rfl, _⟩ := h; rfl) | (obtain ⟨_, _, rfl, _⟩ := h; rfl) | (obtain ⟨_, _, _, rfl, _⟩ := h; rfl) | (obtain ⟨_, _, _, _, rfl, _⟩ := h; rfl) | (obtain ⟨_, _, _, _, _, rfl, _⟩ := h; rfl) | (obtain ⟨_, _, _, _, _, _, rfl, _⟩ := h; rfl) | (obtain ⟨_, _, _, _, _, _, _, rfl, _⟩ := h; rfl)) l_bounds_of, g28, p28, B28⟩
  have C48 : Cal l.prog w K mg base (jugB (clsOf [("NoOrder", C_NoOrder), ("Impossible", C_Impossible), ("TooLarge", C_TooLarge)] fa) r l1) 9 "_law_alike" ["_law_row_here", "_law_order", "_law_other"] S_law_alike := ⟨f48, v48, w_law_alike F48 C30 C21 C25 C26 C28 y_len (fun ds Q E h => by first | (simp only [S_law_alike] at h; split at h <;> first | rfl | exact h.elim) | (obtain ⟨rfl, _⟩ := h; rfl) | (obtain ⟨_, rfl, _⟩ := h; rfl) | (obtain ⟨_, _, rfl, _⟩ := h; rfl) | (obtain ⟨_, _, _, rfl, _⟩ := h; rfl) | (obtain ⟨_, _, _, _, rfl, _⟩ := h; rfl) | (obtain ⟨_, _, _, _, _, rfl, _⟩ := h; rfl) | (obtain ⟨_, _, _, _, _, _, rfl, _⟩ := h; rfl) | (obtain ⟨_, _, _, _, _, _, _, rfl, _⟩ := h; rfl)) l_law_alike, g48, p48, B48⟩
  exact w_law C43 C38 C42 C39 C45 C46 C47 C48 C26 y_range y_len y_tuple y_sorted y_set cdv A outer s H E hr hgd tk
end LawP
set_option linter.all false
set_option maxRecDepth 100000
set_option maxHeartbeats 0
open PySem PySem.W PyProof.Rows in
theorem PySem.Challenge.cw_matesline_k23_whole_one_verdict_of_three_holds : PySem.Challenge.rw_matesline_k23_whole_one_verdict_of_three.Holds := by
  w_on; o_law; k_head; (case hw => w_witness2)
  k_fill
  refine VL.walkG (l := PySem.Challenge.rw_matesline_k23_whole_one_verdict_of_three) (n := 63) (k := 11) (x := "_law_script") (sp := fun w => VL.spLaw _) rfl (by decide) rfl ⟨rfl, by decide, by decide⟩ (fun w h Y => PySem.W.kIn_of Y) ?F (fun _ _ a ns hl _ hS => ⟨a, ns, rfl, hS, hl, fun _ => rfl⟩)
  case F =>
    intro w mg fa h KX G hmg
    refine' LawP.all_mk KX G hmg ?d41 ?d42 ?d43 ?d45 ?d16 ?d17 ?d18 ?d19 ?d7 ?d20 ?d21 ?d22 ?d23 ?d24 ?d25 ?d26 ?d46 ?d37 ?d35 ?d36 ?d38 ?d39 ?d29 ?d27 ?d30 ?d31 ?d32 ?d33 ?d34 ?d47 ?d28 ?d48 ?d49 ?m0 ?m1 ?m2 ?m3 ?m4 ?m5 ?m6 ?m7 ?z0 ?z1 ?z2 ?z3 ?z4 ?z5 ?z6 ?z7 ?z8 ?z9 ?z10 ?z11 ?z12 ?z13 ?z14 ?z15 ?z16 ?r0 ?r1 ?r2
    (case d41 => refine' VL.defK ?a ?l ?c ?k; (case a => k_is); (case l => k_is); (case c => k_is); (case k => k_is))
    (case d42 => refine' VL.defK ?a ?l ?c ?k; (case a => k_is); (case l => k_is); (case c => k_is); (case k => k_is))
    (case d43 => refine' VL.defK ?a ?l ?c ?k; (case a => k_is); (case l => k_is); (case c => k_is); (case k => k_is))
    (case d45 => refine' VL.defK ?a ?l ?c ?k; (case a => k_is); (case l => k_is); (case c => k_is); (case k => k_is))
    (case d16 => refine' VL.defK ?a ?l ?c ?k; (case a => k_is); (case l => k_is); (case c => k_is); (case k => k_is))
    (case d17 => refine' VL.defK ?a ?l ?c ?k; (case a => k_is); (case l => k_is); (case c => k_is); (case k => k_is))
    (case d18 => refine' VL.defK ?a ?l ?c ?k; (case a => k_is); (case l => k_is); (case c => k_is); (case k => k_is))
    (case d19 => refine' VL.defK ?a ?l ?c ?k; (case a => k_is); (case l => k_is); (case c => k_is); (case k => k_is))
    (case d7 => refine' VL.defK ?a ?l ?c ?k; (case a => k_is); (case l => k_is); (case c => k_is); (case k => k_is))
    (case d20 => refine' VL.defK ?a ?l ?c ?k; (case a => k_is); (case l => k_is); (case c => k_is); (case k => k_is))
    (case d21 => refine' VL.defK ?a ?l ?c ?k; (case a => k_is); (case l => k_is); (case c => k_is); (case k => k_is))
    (case d22 => refine' VL.defK ?a ?l ?c ?k; (case a => k_is); (case l => k_is); (case c => k_is); (case k => k_is))
    (case d23 => refine' VL.defK ?a ?l ?c ?k; (case a => k_is); (case l => k_is); (case c => k_is); (case k => k_is))
    (case d24 => refine' VL.defK ?a ?l ?c ?k; (case a => k_is); (case l => k_is); (case c => k_is); (case k => k_is))
    (case d25 => refine' VL.defK ?a ?l ?c ?k; (case a => k_is); (case l => k_is); (case c => k_is); (case k => k_is))
    (case d26 => refine' VL.defK ?a ?l ?c ?k; (case a => k_is); (case l => k_is); (case c => k_is); (case k => k_is))
    (case d46 => refine' VL.defK ?a ?l ?c ?k; (case a => k_is); (case l => k_is); (case c => k_is); (case k => k_is))
    (case d37 => refine' VL.defK ?a ?l ?c ?k; (case a => k_is); (case l => k_is); (case c => k_is); (case k => k_is))
    (case d35 => refine' VL.defK ?a ?l ?c ?k; (case a => k_is); (case l => k_is); (case c => k_is); (case k => k_is))
    (case d36 => refine' VL.defK ?a ?l ?c ?k; (case a => k_is); (case l => k_is); (case c => k_is); (case k => k_is))
    (case d38 => refine' VL.defK ?a ?l ?c ?k; (case a => k_is); (case l => k_is); (case c => k_is); (case k => k_is))
    (case d39 => refine' VL.defK ?a ?l ?c ?k; (case a => k_is); (case l => k_is); (case c => k_is); (case k => k_is))
    (case d29 => refine' VL.defK ?a ?l ?c ?k; (case a => k_is); (case l => k_is); (case c => k_is); (case k => k_is))
    (case d27 => refine' VL.defK ?a ?l ?c ?k; (case a => k_is); (case l => k_is); (case c => k_is); (case k => k_is))
    (case d30 => refine' VL.defK ?a ?l ?c ?k; (case a => k_is); (case l => k_is); (case c => k_is); (case k => k_is))
    (case d31 => refine' VL.defK ?a ?l ?c ?k; (case a => k_is); (case l => k_is); (case c => k_is); (case k => k_is))
    (case d32 => refine' VL.defK ?a ?l ?c ?k; (case a => k_is); (case l => k_is); (case c => k_is); (case k => k_is))
    (case d33 => refine' VL.defK ?a ?l ?c ?k; (case a => k_is); (case l => k_is); (case c => k_is); (case k => k_is))
    (case d34 => refine' VL.defK ?a ?l ?c ?k; (case a => k_is); (case l => k_is); (case c => k_is); (case k => k_is))
    (case d47 => refine' VL.defK ?a ?l ?c ?k; (case a => k_is); (case l => k_is); (case c => k_is); (case k => k_is))
    (case d28 => refine' VL.defK ?a ?l ?c ?k; (case a => k_is); (case l => k_is); (case c => k_is); (case k => k_is))
    (case d48 => refine' VL.defK ?a ?l ?c ?k; (case a => k_is); (case l => k_is); (case c => k_is); (case k => k_is))
    (case d49 => refine' VL.defK ?a ?l ?c ?k; (case a => k_is); (case l => k_is); (case c => k_is); (case k => k_is))
    (case m0 => k_is)
    (case m1 => k_is)
    (case m2 => k_is)
    (case m3 => k_is)
    (case m4 => k_is)
    (case m5 => k_is)
    (case m6 => k_is)
    (case m7 => k_is)
    (case z0 => k_is)
    (case z1 => k_is)
    (case z2 => k_is)
    (case z3 => k_is)
    (case z4 => k_is)
    (case z5 => k_is)
    (case z6 => k_is)
    (case z7 => k_is)
    (case z8 => k_is)
    (case z9 => k_is)
    (case z10 => k_is)
    (case z11 => k_is)
    (case z12 => k_is)
    (case z13 => k_is)
    (case z14 => k_is)
    (case z15 => k_is)
    (case z16 => k_is)
    (case r0 => refine' VL.rai0 (VL.raiB ?a1 ?a2 ?a3 ?a4 ?a5 ?b1 ?b2 ?b3 ?b4 ?b5 ?b6 ?b7 ?b8) ?e1; (case a1 => k_is); (case a2 => k_is); (case a3 => k_is); (case a4 => k_is); (case a5 => k_is); (case b1 => k_is); (case b2 => k_is); (case b3 => k_is); (case b4 => k_is); (case b5 => k_is); (case b6 => k_is); (case b7 => k_is); (case b8 => k_is); (case e1 => first | rfl | decide +kernel | k_exc))
    (case r1 => refine' VL.rai0 (VL.raiB ?a1 ?a2 ?a3 ?a4 ?a5 ?b1 ?b2 ?b3 ?b4 ?b5 ?b6 ?b7 ?b8) ?e1; (case a1 => k_is); (case a2 => k_is); (case a3 => k_is); (case a4 => k_is); (case a5 => k_is); (case b1 => k_is); (case b2 => k_is); (case b3 => k_is); (case b4 => k_is); (case b5 => k_is); (case b6 => k_is); (case b7 => k_is); (case b8 => k_is); (case e1 => first | rfl | decide +kernel | k_exc))
    (case r2 => refine' VL.rai1 (VL.raiB ?a1 ?a2 ?a3 ?a4 ?a5 ?b1 ?b2 ?b3 ?b4 ?b5 ?b6 ?b7 ?b8) ?c1 ?c2 ?c3 ?c4 ?d1 ?d2 ?d3 ?d4 ?d5; (case a1 => k_is); (case a2 => k_is); (case a3 => k_is); (case a4 => k_is); (case a5 => k_is); (case b1 => k_is); (case b2 => k_is); (case b3 => k_is); (case b4 => k_is); (case b5 => k_is); (case b6 => k_is); (case b7 => k_is); (case b8 => k_is); (case c1 => k_is); (case c2 => decide +kernel); (case c3 => k_is); (case c4 => k_is); (case d1 => k_is); (case d2 => k_is); (case d3 => k_is); (case d4 => k_is); (case d5 => k_is))
